import PyProof.Rows.All
import Wide.All
import OpenK.AllK
import Wide.FinOn
import HandS.ForMost
import HandS.ForExc
import HandS.Wide
import HandS.IsInst
import HandS.CallSlots
import HandS.ExcIs
import HandS.ExcCtx
import HandS.HotCalls
import HandS.TupAny
import HandS.TupMul
import HandS.Deep
import PyProof.EqKinds
import HandS.WideBits
import PyProof.Rows.SeqMore
import HandS.NoneIn
import HandS.Zip
import HandS.Style
import KE.GoesMore
import PyProof.Draws
import PyProof.EnumMake
import KE.GoesEnum
import HandS.Iter
import HandS.TupSets
import HandS.More
import PySem.Challenge.RW_threadchart_k51_whole_marks_on_the_sheet
set_option Elab.async false
set_option linter.all false
set_option maxRecDepth 100000
set_option autoImplicit false
namespace Z
open PySem PySem.Spec PyProof.Rows L2

/-! ### data -/
inductive D where
  | non | bl (b : Bool) | int (i : Int) | str (x : Str) | tup (ds : List D) | lst (ds : List D) | dic (ks : List Key) (ds : List D) | exc (c : Nat)
/-- an exception, by the number of its class in the table, with its fields -/
structure Exc where
  c : Nat
  pl : List (Str × D)
/-- what a frame owns -/
inductive O where
  | lst (ds : List D) | dic (ks : List Key) (ds : List D)
inductive Sl where
  | no | va (d : D) | ow (o : O) | pi (o : O)
abbrev En := List Sl
inductive RE where
  | ok (d : D) (δ : En) | rz (c : Exc) (δ : En) | bad
inductive RS where
  | nx (δ : En) | rt (d : D) (δ : En) | ro (o : O) (δ : En) | bk (δ : En) | ct (δ : En) | rz (c : Exc) (δ : En) | bad
abbrev Den := En → RE
abbrev SDen := En → RS

/-! ### the program's classes of exceptions, by their names in the module; the last one is built in -/
def exNames : List Str := ["SheetError", "NoNumber", "NoSpot", "Loose", "NoScale", "NoChart", "NoMap", "NoStretch", "NoName", "NoWorth", "NoText", "NoRow", "NoEight", "Stuck", "NoFit"]
def exNm (c : Nat) : Str := exNames.getD c "ValueError"
def ctOf (K : PySem.W.Frag) (c : Nat) : Addr := match PySem.W.nsIn K mainGlobals (exNm c) with
  | some (some (.ref C)) => C
  | _ => 0
/-- a caught exception's object, as it stands -/
def ExcO (K : PySem.W.Frag) (c : Nat) (oe : Obj) : Prop := oe.cls = .ref (ctOf K c) ∧ oe.dict = none ∧ ∃ vs, oe.data = .fields vs ∧ vs[2]? = some .none
def exT (oe : Obj) : HO := .frz oe (.ext fun _ => True)
/-! ### data in the heap -/
theorem Same.seqT {K : PySem.W.Frag} {H H' : Hp} {a : Addr} {xs : List V} (e : Same H H') (h : SqT K H a xs) : SqT K H' a xs := by
  rcases h with (h | ⟨o, h⟩) | h
  · exact .inl (.inl (e _ _ h))
  · exact .inl (.inr ⟨o, e _ _ h⟩)
  · exact .inr h
mutual
inductive Rep (K : PySem.W.Frag) (H : Hp) : V → D → Prop
  | non : Rep K H .non .non
  | bl (b : Bool) : Rep K H (.bl b) (.bl b)
  | int (i : Int) : Rep K H (.int i) (.int i)
  | str (x : Str) : Rep K H (.str x) (.str x)
  | tup {a : Addr} {xs : List V} {ds : List D} : SqT K H a xs → Reps K H xs ds → Rep K H (.ref a) (.tup ds)
  | lst {a : Addr} {xs : List V} {ds : List D} : SqL K H a xs → Reps K H xs ds → Rep K H (.ref a) (.lst ds)
  | dic {a : Addr} {kvs : List (Key × V)} {ks : List Key} {xs : List V} {ds : List D} : H a = some (.dK kvs) → kvs = ks.zip xs → ks.length = xs.length → Reps K H xs ds → Rep K H (.ref a) (.dic ks ds)
  | exc {a : Addr} {oe : Obj} {c : Nat} : H a = some (exT oe) → ExcO K c oe → Rep K H (.ref a) (.exc c)
inductive Reps (K : PySem.W.Frag) (H : Hp) : List V → List D → Prop
  | nil : Reps K H [] []
  | cons {v : V} {vs : List V} {d : D} {ds : List D} : Rep K H v d → Reps K H vs ds → Reps K H (v :: vs) (d :: ds)
end
mutual
theorem Rep.mono {K : PySem.W.Frag} {H H' : Hp} (e : Same H H') : ∀ {v : V} {d : D}, Rep K H v d → Rep K H' v d
  | _, _, .non => .non
  | _, _, .bl b => .bl b
  | _, _, .int i => .int i
  | _, _, .str x => .str x
  | _, _, .tup h r => .tup (Same.seqT e h) (Reps.mono e r)
  | _, _, .lst h r => .lst (e.seq h) (Reps.mono e r)
  | _, _, .dic h q l r => .dic (e _ _ h) q l (Reps.mono e r)
  | _, _, .exc h x => .exc (e _ _ h) x
theorem Reps.mono {K : PySem.W.Frag} {H H' : Hp} (e : Same H H') : ∀ {v : List V} {d : List D}, Reps K H v d → Reps K H' v d
  | _, _, .nil => .nil
  | _, _, .cons h r => .cons (Rep.mono e h) (Reps.mono e r)
end
theorem Reps.length {K : PySem.W.Frag} {H : Hp} : ∀ {v : List V} {d : List D}, Reps K H v d → v.length = d.length
  | _, _, .nil => rfl
  | _, _, .cons _ r => by rw [List.length_cons, List.length_cons, Reps.length r]
theorem Reps.get {K : PySem.W.Frag} {H : Hp} : ∀ {vs : List V} {ds : List D} {i : Nat} {d : D}, Reps K H vs ds → ds[i]? = some d → ∃ v, vs[i]? = some v ∧ Rep K H v d
  | _, _, _, _, .nil, e => by simp at e
  | _, _, 0, _, .cons h _, e => by simp at e; subst e; exact ⟨_, rfl, h⟩
  | _, _, i + 1, _, .cons _ r, e => by
    obtain ⟨v, h1, h2⟩ := Reps.get (i := i) r (by simpa using e)
    exact ⟨v, by simpa using h1, h2⟩
theorem Reps.get' {K : PySem.W.Frag} {H : Hp} : ∀ {vs : List V} {ds : List D} {i : Nat} {v : V}, Reps K H vs ds → vs[i]? = some v → ∃ d, ds[i]? = some d ∧ Rep K H v d
  | _, _, _, _, .nil, e => by simp at e
  | _, _, 0, _, .cons h _, e => by simp at e; subst e; exact ⟨_, rfl, h⟩
  | _, _, i + 1, _, .cons _ r, e => by
    obtain ⟨v, h1, h2⟩ := Reps.get' (i := i) r (by simpa using e)
    exact ⟨v, by simpa using h1, h2⟩
theorem Reps.append {K : PySem.W.Frag} {H : Hp} : ∀ {vs ws : List V} {ds es : List D}, Reps K H vs ds → Reps K H ws es → Reps K H (vs ++ ws) (ds ++ es)
  | _, _, _, _, .nil, s => s
  | _, _, _, _, .cons h r, s => .cons h (Reps.append r s)
theorem Reps.take {K : PySem.W.Frag} {H : Hp} : ∀ (n : Nat) {vs : List V} {ds : List D}, Reps K H vs ds → Reps K H (vs.take n) (ds.take n)
  | 0, _, _, _ => .nil
  | _ + 1, _, _, .nil => .nil
  | n + 1, _, _, .cons h r => .cons h (Reps.take n r)
theorem Reps.drop {K : PySem.W.Frag} {H : Hp} : ∀ (n : Nat) {vs : List V} {ds : List D}, Reps K H vs ds → Reps K H (vs.drop n) (ds.drop n)
  | 0, _, _, r => r
  | _ + 1, _, _, .nil => .nil
  | n + 1, _, _, .cons _ r => Reps.drop n r
theorem Reps.set {K : PySem.W.Frag} {H : Hp} {v : V} {d : D} (h : Rep K H v d) : ∀ (n : Nat) {vs : List V} {ds : List D}, Reps K H vs ds → Reps K H (vs.set n v) (ds.set n d)
  | _, _, _, .nil => .nil
  | 0, _, _, .cons _ r => .cons h r
  | n + 1, _, _, .cons q r => .cons q (Reps.set h n r)
theorem Reps.ints {K : PySem.W.Frag} {H : Hp} : ∀ ns : List Int, Reps K H (ns.map V.int) (ns.map D.int)
  | [] => .nil
  | n :: r => .cons (.int n) (Reps.ints r)

/-- the exception is of the class, with these fields -/
def ExIs (K : PySem.W.Frag) (ct : Nat → Addr) (c : Exc) (cls : Value) (dd : Option Addr) (H : Hp) : Prop :=
  cls = .ref (ct c.c) ∧ ((c.pl = [] ∧ dd = none) ∨ (c.pl ≠ [] ∧ ∃ d fs, dd = some d ∧ H d = some (.xd fs) ∧ fs.map (·.1) = c.pl.map (·.1) ∧ Reps K H (fs.map (·.2)) (c.pl.map (·.2))))

/-! ### the frame: its slots, its heap -/
/-- the ghost: the heap at the def's entry, what of it is read there, the parameters that the caller owns -/
structure Gh where
  He : Hp
  Hf : Hp
  pins : List (Nat × Addr)
/-- an owned object: its items are read in H0, it itself is not -/
def OwnAt (K : PySem.W.Frag) (H0 H : Hp) (a : Addr) : O → Prop
  | .lst ds => ∃ vs, H a = some (.lst vs) ∧ Reps K H0 vs ds
  | .dic ks ds => ∃ vs, H a = some (.dK (ks.zip vs)) ∧ ks.length = vs.length ∧ Reps K H0 vs ds
def SlOk (K : PySem.W.Frag) (G : Gh) (H0 H : Hp) (i : Nat) : Sl → Option V → Prop
  | .no, _ => True
  | .va d, x => ∃ v, x = some v ∧ Rep K H0 v d
  | .ow o, x => ∃ a, x = some (.ref a) ∧ H0 a = none ∧ G.He a = none ∧ OwnAt K H0 H a o
  | .pi o, x => ∃ a, x = some (.ref a) ∧ H0 a = none ∧ G.He a = none ∧ OwnAt K H0 H a o ∧ (i, a) ∈ G.pins
def isOwn : Sl → Bool
  | .ow _ => true
  | .pi _ => true
  | _ => false
structure Rl (K : PySem.W.Frag) (G : Gh) (δ : En) (σ : L2.St) (H0 H : Hp) : Prop where
  hs : Same H0 H
  he : Same G.He H
  hf : Same G.Hf H0
  hn : ∀ b, G.He b ≠ none → H0 b = G.Hf b
  len : δ.length = σ.length
  sl : ∀ (i : Nat) (s : Sl) (x : Option V), δ[i]? = some s → σ[i]? = some x → SlOk K G H0 H i s x
  dj : ∀ (i j : Nat) (s t : Sl) (a : Addr), i ≠ j → δ[i]? = some s → δ[j]? = some t → isOwn s = true → isOwn t = true → σ[i]? = some (some (V.ref a)) → σ[j]? = some (some (V.ref a)) → False
  pn : ∀ (i : Nat) (a : Addr), (i, a) ∈ G.pins → ∃ o, δ[i]? = some (.pi o) ∧ σ[i]? = some (some (V.ref a))
theorem OwnAt.some_ {K : PySem.W.Frag} {H0 H : Hp} {a : Addr} {o : O} (h : OwnAt K H0 H a o) : H a ≠ none := by
  cases o with
  | lst ds => obtain ⟨vs, e, _⟩ := h; rw [e]; simp
  | dic ks ds => obtain ⟨vs, e, _⟩ := h; rw [e]; simp
theorem OwnAt.mono {K : PySem.W.Frag} {H0 H H0' H' : Hp} {a : Addr} {o : O} (h : OwnAt K H0 H a o) (s : Same H0 H0') (e : H' a = H a) : OwnAt K H0' H' a o := by
  cases o with
  | lst ds => obtain ⟨vs, q, r⟩ := h; exact ⟨vs, by rw [e, q], r.mono s⟩
  | dic ks ds => obtain ⟨vs, q, l, r⟩ := h; exact ⟨vs, by rw [e, q], l, r.mono s⟩
/-- growth of the heap that leaves what the frame has -/
structure Gr (H0 H H0' H' : Hp) : Prop where
  hs : Same H H'
  h0 : Same H0 H0'
  s' : Same H0' H'
  hn : ∀ b, H b ≠ none → H0' b = H0 b
theorem Gr.refl {H0 H : Hp} (h : Same H0 H) : Gr H0 H H0 H := ⟨Same.refl _, Same.refl _, h, fun _ _ => rfl⟩
theorem Gr.trans {H0 H H1 J H2 L : Hp} (a : Gr H0 H H1 J) (b : Gr H1 J H2 L) : Gr H0 H H2 L :=
  ⟨a.hs.trans b.hs, a.h0.trans b.h0, b.s', fun c e => by
    have e' : J c ≠ none := by
      cases q : H c with
      | none => exact absurd q e
      | some o => rw [a.hs c o q]; simp
    rw [b.hn c e', a.hn c e]⟩
section
variable {K : PySem.W.Frag} {G : Gh} {δ : En} {σ : L2.St} {H0 H H0' H' : Hp}
theorem SlOk.grow {i : Nat} {s : Sl} {x : Option V} (h : SlOk K G H0 H i s x) (g : Gr H0 H H0' H') : SlOk K G H0' H' i s x := by
  have key : ∀ {a : Addr} {o : O}, H0 a = none → OwnAt K H0 H a o → H0' a = none ∧ OwnAt K H0' H' a o := fun {a o} n w => by
    have ne := w.some_
    refine ⟨by rw [g.hn a ne, n], w.mono g.h0 ?_⟩
    cases q : H a with
    | none => exact absurd q ne
    | some z => exact g.hs a z q
  cases s with
  | no => trivial
  | va d => obtain ⟨v, e, r⟩ := h; exact ⟨v, e, r.mono g.h0⟩
  | ow o => obtain ⟨a, e, n, f, w⟩ := h; exact ⟨a, e, (key n w).1, f, (key n w).2⟩
  | pi o => obtain ⟨a, e, n, f, w, p⟩ := h; exact ⟨a, e, (key n w).1, f, (key n w).2, p⟩
theorem Rl.grow (R : Rl K G δ σ H0 H) (g : Gr H0 H H0' H') : Rl K G δ σ H0' H' where
  hs := g.s'
  he := R.he.trans g.hs
  hf := R.hf.trans g.h0
  hn := fun b e => by
    have e' : H b ≠ none := by
      cases q : G.He b with
      | none => exact absurd q e
      | some o => rw [R.he b o q]; simp
    rw [g.hn b e', R.hn b e]
  len := R.len
  sl := fun i s x a b => (R.sl i s x a b).grow g
  dj := R.dj
  pn := R.pn
/-- a new object that is read -/
theorem Gr.new {p : Addr} {o : HO} (s : Same H0 H) (n : H p = none) : Gr H0 H (upd H0 p o) (upd H p o) := by
  have n0 : H0 p = none := s.free n
  refine ⟨fun b u e => by rw [upd_ne (ne_of_none e n)]; exact e, fun b u e => by rw [upd_ne (ne_of_none e n0)]; exact e, fun b u e => ?_, fun b e => ?_⟩
  · by_cases hb : b = p
    · subst hb; rw [upd_same] at e; rw [upd_same]; exact e
    · rw [upd_ne hb] at e; rw [upd_ne hb]; exact s b u e
  · have hb : b ≠ p := fun z => e (by rw [z]; exact n)
    rw [upd_ne hb]
/-- a slot is stored -/
theorem Rl.set_va {i : Nat} {v : V} {d : D} (R : Rl K G δ σ H0 H) (r : Rep K H0 v d) (np : ∀ o, δ[i]? ≠ some (.pi o)) : Rl K G (δ.set i (.va d)) (σ.set i (some v)) H0 H where
  hs := R.hs
  he := R.he
  hf := R.hf
  hn := R.hn
  len := by rw [List.length_set, List.length_set, R.len]
  sl := fun j s x a b => by
    by_cases hj : i = j
    · subst hj
      by_cases hl : i < δ.length
      · rw [List.getElem?_set_self hl] at a
        rw [List.getElem?_set_self (by rw [← R.len]; exact hl)] at b
        cases a; cases b
        exact ⟨v, rfl, r⟩
      · rw [List.getElem?_eq_none (by simpa using hl)] at a; cases a
    · rw [List.getElem?_set_ne hj] at a b
      exact R.sl j s x a b
  dj := fun j k s t a ne e1 e2 o1 o2 f1 f2 => by
    by_cases hj : i = j
    · subst hj
      by_cases hl : i < δ.length
      · rw [List.getElem?_set_self hl] at e1; cases e1; cases o1
      · rw [List.getElem?_eq_none (by simpa using hl)] at e1; cases e1
    · by_cases hk : i = k
      · subst hk
        by_cases hl : i < δ.length
        · rw [List.getElem?_set_self hl] at e2; cases e2; cases o2
        · rw [List.getElem?_eq_none (by simpa using hl)] at e2; cases e2
      · rw [List.getElem?_set_ne hj] at e1 f1
        rw [List.getElem?_set_ne hk] at e2 f2
        exact R.dj j k s t a ne e1 e2 o1 o2 f1 f2
  pn := fun j a hp => by
    obtain ⟨o, e1, e2⟩ := R.pn j a hp
    have hj : i ≠ j := fun z => np o (z ▸ e1)
    exact ⟨o, by rw [List.getElem?_set_ne hj]; exact e1, by rw [List.getElem?_set_ne hj]; exact e2⟩
/-- an owned slot is handed on: it is read from now on, no longer written -/
theorem Rl.freeze {i : Nat} {a : Addr} {d : D} {o : O} {u : HO} (R : Rl K G δ σ H0 H) (hi : δ[i]? = some (.ow o)) (hσ : σ[i]? = some (some (V.ref a))) (hu : H a = some u) (n0 : H0 a = none) (ne : G.He a = none)
    (r : Rep K (upd H0 a u) (.ref a) d) : Rl K G (δ.set i (.va d)) σ (upd H0 a u) H := by
  have s1 : Same H0 (upd H0 a u) := fun b w e => by rw [upd_ne (ne_of_none e n0)]; exact e
  have hl : i < δ.length := (List.getElem?_eq_some_iff.mp hi).1
  refine ⟨fun b w e => ?_, R.he, R.hf.trans s1, fun b e => ?_, by rw [List.length_set, R.len], fun j s x h1 h2 => ?_, fun j k s t c ne' e1 e2 o1 o2 f1 f2 => ?_, fun j c hp => ?_⟩
  · by_cases hb : b = a
    · subst hb; rw [upd_same] at e; cases e; exact hu
    · rw [upd_ne hb] at e; exact R.hs b w e
  · have hb : b ≠ a := fun z => e (by rw [z]; exact ne)
    rw [upd_ne hb]; exact R.hn b e
  · by_cases hj : i = j
    · subst hj
      rw [List.getElem?_set_self hl] at h1
      cases h1
      rw [hσ] at h2; cases h2
      exact ⟨_, rfl, r⟩
    · rw [List.getElem?_set_ne hj] at h1
      have q := R.sl j s x h1 h2
      have nea : ∀ c, isOwn s = true → x = some (.ref c) → c ≠ a := fun c ho hx z => by
        subst hx z
        exact R.dj i j _ s c hj hi h1 rfl ho hσ h2
      cases s with
      | no => trivial
      | va d => obtain ⟨v, e, r⟩ := q; exact ⟨v, e, r.mono s1⟩
      | ow o => obtain ⟨c, e, n, f, w⟩ := q; exact ⟨c, e, by rw [upd_ne (nea c rfl e)]; exact n, f, w.mono s1 rfl⟩
      | pi o => obtain ⟨c, e, n, f, w, p⟩ := q; exact ⟨c, e, by rw [upd_ne (nea c rfl e)]; exact n, f, w.mono s1 rfl, p⟩
  · have hj : i ≠ j := fun z => by subst z; rw [List.getElem?_set_self hl] at e1; cases e1; cases o1
    have hk : i ≠ k := fun z => by subst z; rw [List.getElem?_set_self hl] at e2; cases e2; cases o2
    rw [List.getElem?_set_ne hj] at e1
    rw [List.getElem?_set_ne hk] at e2
    exact R.dj j k s t c ne' e1 e2 o1 o2 f1 f2
  · obtain ⟨o', e1, e2⟩ := R.pn j c hp
    have hj : i ≠ j := fun z => by subst z; rw [hi] at e1; cases e1
    exact ⟨o', by rw [List.getElem?_set_ne hj]; exact e1, e2⟩
/-- a slot takes a new owned object -/
theorem Rl.set_ow {i : Nat} {a : Addr} {o : O} (R : Rl K G δ σ H0 H) (n0 : H0 a = none) (ne : G.He a = none) (w : OwnAt K H0 H a o) (np : ∀ o, δ[i]? ≠ some (.pi o))
    (nw : ∀ (j : Nat) (s : Sl), δ[j]? = some s → isOwn s = true → σ[j]? ≠ some (some (V.ref a))) : Rl K G (δ.set i (.ow o)) (σ.set i (some (.ref a))) H0 H where
  hs := R.hs
  he := R.he
  hf := R.hf
  hn := R.hn
  len := by rw [List.length_set, List.length_set, R.len]
  sl := fun j s x h1 h2 => by
    by_cases hj : i = j
    · subst hj
      by_cases hl : i < δ.length
      · rw [List.getElem?_set_self hl] at h1
        rw [List.getElem?_set_self (by rw [← R.len]; exact hl)] at h2
        cases h1; cases h2
        exact ⟨a, rfl, n0, ne, w⟩
      · rw [List.getElem?_eq_none (by simpa using hl)] at h1; cases h1
    · rw [List.getElem?_set_ne hj] at h1 h2
      exact R.sl j s x h1 h2
  dj := fun j k s t c ne' e1 e2 o1 o2 f1 f2 => by
    by_cases hl : i < δ.length
    · have hl' : i < σ.length := by rw [← R.len]; exact hl
      by_cases hj : i = j
      · subst hj
        have hk : i ≠ k := ne'
        rw [List.getElem?_set_self hl'] at f1
        cases f1
        rw [List.getElem?_set_ne hk] at e2 f2
        exact nw k t e2 o2 f2
      · rw [List.getElem?_set_ne hj] at e1 f1
        by_cases hk : i = k
        · subst hk
          rw [List.getElem?_set_self hl'] at f2
          cases f2
          exact nw j s e1 o1 f1
        · rw [List.getElem?_set_ne hk] at e2 f2
          exact R.dj j k s t c ne' e1 e2 o1 o2 f1 f2
    · have e : δ.set i (.ow o) = δ := List.set_eq_of_length_le (by omega)
      have e' : σ.set i (some (.ref a)) = σ := List.set_eq_of_length_le (by rw [← R.len]; omega)
      rw [e] at e1 e2
      rw [e'] at f1 f2
      exact R.dj j k s t c ne' e1 e2 o1 o2 f1 f2
  pn := fun j c hp => by
    obtain ⟨o', e1, e2⟩ := R.pn j c hp
    have hj : i ≠ j := fun z => np o' (z ▸ e1)
    exact ⟨o', by rw [List.getElem?_set_ne hj]; exact e1, by rw [List.getElem?_set_ne hj]; exact e2⟩
/-- an owned object is written -/
theorem Rl.write {i : Nat} {a : Addr} {s s' : Sl} {u : HO} {o' : O} (R : Rl K G δ σ H0 H) (hi : δ[i]? = some s) (hs : isOwn s = true) (hs' : s' = (match s with | .pi _ => .pi o' | _ => .ow o')) (hσ : σ[i]? = some (some (V.ref a)))
    (n0 : H0 a = none) (ne : G.He a = none) (w : OwnAt K H0 (upd H a u) a o') : Rl K G (δ.set i s') σ H0 (upd H a u) := by
  have hl : i < δ.length := (List.getElem?_eq_some_iff.mp hi).1
  have own' : isOwn s' = true := by
    subst hs'
    cases s <;> first | rfl | cases hs
  refine ⟨fun b w e => ?_, fun b w e => ?_, R.hf, R.hn, by rw [List.length_set, R.len], fun j t x h1 h2 => ?_, fun j k sa sb c ne' e1 e2 o1 o2 f1 f2 => ?_, fun j c hp => ?_⟩
  · rw [upd_ne (ne_of_none e n0)]; exact R.hs b w e
  · rw [upd_ne (ne_of_none e ne)]; exact R.he b w e
  · by_cases hj : i = j
    · subst hj
      rw [List.getElem?_set_self hl] at h1
      cases h1
      rw [hσ] at h2; cases h2
      have q := R.sl i s _ hi hσ
      subst hs'
      cases s with
      | no => cases hs
      | va d => cases hs
      | ow o => exact ⟨a, rfl, n0, ne, w⟩
      | pi o =>
        obtain ⟨c, e, _, _, _, p⟩ := q
        cases e
        exact ⟨a, rfl, n0, ne, w, p⟩
    · rw [List.getElem?_set_ne hj] at h1
      have q := R.sl j t x h1 h2
      have nea : ∀ c, isOwn t = true → x = some (.ref c) → c ≠ a := fun c ho hx z => by
        subst hx z
        exact R.dj i j _ t c hj hi h1 hs ho hσ h2
      cases t with
      | no => trivial
      | va d => exact q
      | ow o => obtain ⟨c, e, n, f, w⟩ := q; exact ⟨c, e, n, f, w.mono (Same.refl _) (upd_ne (nea c rfl e))⟩
      | pi o => obtain ⟨c, e, n, f, w, p⟩ := q; exact ⟨c, e, n, f, w.mono (Same.refl _) (upd_ne (nea c rfl e)), p⟩
  · have key : ∀ {j : Nat} {t : Sl}, (δ.set i s')[j]? = some t → isOwn t = true → ∃ t', δ[j]? = some t' ∧ isOwn t' = true := fun {j t} e o => by
      by_cases hj : i = j
      · subst hj; exact ⟨s, hi, hs⟩
      · rw [List.getElem?_set_ne hj] at e; exact ⟨t, e, o⟩
    obtain ⟨s1, q1, p1⟩ := key e1 o1
    obtain ⟨s2, q2, p2⟩ := key e2 o2
    exact R.dj j k s1 s2 c ne' q1 q2 p1 p2 f1 f2
  · obtain ⟨o, e1, e2⟩ := R.pn j c hp
    by_cases hj : i = j
    · subst hj
      rw [hi] at e1
      cases e1
      subst hs'
      exact ⟨o', by rw [List.getElem?_set_self hl], e2⟩
    · exact ⟨o, by rw [List.getElem?_set_ne hj]; exact e1, e2⟩
end
end Z

namespace ZV
open PySem PySem.Spec PyProof.Rows L2
theorem dict_eq_declines_str (l : Addr) (es : Array DictEntry) (n : Nat) (dd : Option Addr) (sl : Array (Option Value)) (b : Str) (u : Tok) :
    Meets (Builtin.«dict.__eq__» ⟨[.ref l, .str b u], []⟩) (fun _ R s => s.heap.get? l = some { cls := .type "dict", dict := dd, data := .dict es n, slots := sl } ∧ R (.ok (.ret .notImplemented)) s) :=
  .of_wp fun prog w A R s h => by
    obtain ⟨hp, g, d, tk, os⟩ := s; obtain ⟨hl, h⟩ := h
    have f1 := F.sub_str_dict
    wp_walk using AutoSeq1.wpAny_loadPart' hl
    exact ⟨_, rfl, h⟩
theorem str_eq_declines_dict (b : Str) (u : Tok) (l : Addr) (es : Array DictEntry) (n : Nat) (dd : Option Addr) (sl : Array (Option Value)) :
    Meets (Builtin.«str.__eq__» ⟨[.str b u, .ref l], []⟩) (fun _ R s => s.heap.get? l = some { cls := .type "dict", dict := dd, data := .dict es n, slots := sl } ∧ R (.ok (.ret .notImplemented)) s) :=
  .of_wp fun prog w A R s h => by obtain ⟨hp, g, d, tk, os⟩ := s; obtain ⟨hl, h⟩ := h; wp_walk using AutoSeq1.wpAny_loadPart' hl, wpAny_load hl; exact ⟨_, rfl, h⟩
/-- a dict and a text: never equal -/
def rEqDS : R2 := fun x y H Q => ∃ (a : Addr) (b : Str) (kvs : List (Key × V)), x = .ref a ∧ y = .str b ∧ H a = some (.dK kvs) ∧ Q (.bl false) H
theorem op_eqDS {X : Cx} (hu : X.A.units < cLine) : OpR X (compareOp .Eq) rEqDS := by
  intro pins s σ H x y v u Q I rx ry h
  obtain ⟨a, b, kvs, rfl, rfl, hk, q⟩ := h
  cases rx
  obtain ⟨t, rfl⟩ := ry
  obtain ⟨_, _, _, _, o, es, n, ho, ex, hd, _⟩ := I.hok a _ hk
  obtain ⟨cls, dd, dt, sl⟩ := o
  obtain ⟨e1, e2, e3⟩ := ex
  simp only at e1 e2 e3 hd
  subst e1 e2 e3 hd
  show wpAny _ _ (richCompare .Eq (.ref a) (.str b t)) _ _ s
  exact SeqAt.rc_eq_decline_or (k := false) ⟨_, ho, rfl⟩ (typeIs_str s b t) (by decide) F.sub_str_dict F.slot_dict_eq F.slot_str_eq_refl
    (fun _ hq => call_meets F.slot_dict_eq ⟨_, ho, rfl⟩ F.entry_dict_eq (F.args_dict_eq_2 _ _) (dict_eq_declines_str a es n none #[] b t) ⟨ho, hq⟩)
    (fun _ hq => call_meets F.slot_str_eq_refl (typeIs_str s b t) F.entry_str_eq (F.args_str_eq_2 _ _) (str_eq_declines_dict b t a es n none #[]) ⟨ho, hq⟩)
    (fun _ hq => wpAny_of_eq (rfl : isSame (.ref a) (.str b t) = pure false) hq) (.inr hu) ⟨.bl false, H, I, rfl, q⟩
end ZV

namespace Z
open PySem PySem.Spec PyProof.Rows L2

/-! ### operations on data -/
mutual
def toPy : D → PyData
  | .non => .none
  | .bl b => .bool b
  | .int i => .int i
  | .str x => .str x
  | .tup ds => .tuple (toPys ds)
  | .lst ds => .list (toPys ds)
  | .dic _ _ => .dict []
  | .exc _ => .dict []
def toPys : List D → List PyData
  | [] => []
  | d :: ds => toPy d :: toPys ds
end
def eqD (d e : D) : Option Bool := if SeqAt.shaped (toPy d) && SeqAt.shaped (toPy e) then some (PyData.eqv (toPy d) (toPy e)) else none
/-- a dict is no text -/
def eqX (d e : D) : Option Bool := match d, e with
  | .dic _ _, .str _ => some false
  | d, e => eqD d e
def tyD : D → String
  | .non => "NoneType"
  | .bl _ => "bool"
  | .int _ => "int"
  | .str _ => "str"
  | .tup _ => "tuple"
  | .lst _ => "list"
  | .dic _ _ => "dict"
  | .exc _ => ""
/-- the bits of both factors together -/
def mulOk (i j : Int) : Bool := decide (i.natAbs.log2 + j.natAbs.log2 < 60000000)
def divOk (j : Int) : Bool := decide (j ≠ 0) && decide (j.natAbs.log2 < 9000)
def powOk (i j : Int) : Bool := decide (0 ≤ j) && decide (j ≤ 1000000) && decide (i.natAbs < 2 ^ 64)
inductive BOp where
  | add | sub | mul | fdiv | mod | pow | shl
def BOp.op : BOp → Operator
  | .add => .Add
  | .sub => .Sub
  | .mul => .Mult
  | .fdiv => .FloorDiv
  | .mod => .Mod
  | .pow => .Pow
  | .shl => .LShift
/-- two of a kind put together -/
def catD : D → D → Option D
  | .str a, .str b => if a.length + b.length ≤ 1000000 then some (.str (a ++ b)) else none
  | .tup a, .tup b => if a.length + b.length ≤ 1000000 then some (.tup (a ++ b)) else none
  | .lst a, .lst b => if a.length + b.length ≤ 1000000 then some (.lst (a ++ b)) else none
  | _, _ => none
def addD : D → D → Option D
  | .int i, .int j => some (.int (i + j))
  | d, e => catD d e
def subD : D → D → Option D
  | .int i, .int j => some (.int (i - j))
  | _, _ => none
def mulD : D → D → Option D
  | .int i, .int j => if mulOk i j then some (.int (i * j)) else none
  | .tup ds, .int k => if !ds.isEmpty && decide (2 ≤ k) && decide (k ≤ 1000) && decide (ds.length ≤ 1000) then some (.tup (List.replicate k.toNat ds).flatten) else none
  | _, _ => none
def fdivD : D → D → Option D
  | .int i, .int j => if divOk j then some (.int (i.fdiv j)) else none
  | _, _ => none
def modD : D → D → Option D
  | .int i, .int j => if j = 0 then none else some (.int (i.fmod j))
  | _, _ => none
def powD : D → D → Option D
  | .int i, .int j => if powOk i j then some (.int (i ^ j.toNat)) else none
  | _, _ => none
def shlOk (i j : Int) : Bool := decide (0 ≤ j) && decide ((Builtin.Int.intBits i : Int) + j ≤ 134217728)
def shlD : D → D → Option D
  | .int i, .int j => if shlOk i j then some (.int (i * 2 ^ j.toNat)) else none
  | _, _ => none
def BOp.fn : BOp → D → D → Option D
  | .add => addD
  | .sub => subD
  | .mul => mulD
  | .fdiv => fdivD
  | .mod => modD
  | .pow => powD
  | .shl => shlD
inductive COp where
  | eq | ne | lt | le | gt | ge | isin | notin
def COp.op : COp → CmpOp
  | .eq => .Eq
  | .ne => .NotEq
  | .lt => .Lt
  | .le => .LtE
  | .gt => .Gt
  | .ge => .GtE
  | .isin => .In
  | .notin => .NotIn
def flatD : D → Bool
  | .non => true
  | .bl _ => true
  | .int _ => true
  | .str _ => true
  | _ => false
def vD : D → V
  | .non => .non
  | .bl b => .bl b
  | .int i => .int i
  | .str x => .str x
  | _ => .non
/-- d in e -/
def inD (d e : D) : Option Bool :=
  match e with
  | .lst ds => if SeqAt.shaped (toPy d) && SeqAt.shaped (.list (toPys ds)) then some ((toPys ds).any fun z => PyData.eqv z (toPy d)) else none
  | .tup ds => if flatD d && ds.all flatD then some (inV (vD d) (ds.map vD)) else none
  | .str b => (match d with
    | .str a => some (!(Builtin.Str.occurrences b a 0 b.length 1).isEmpty)
    | _ => none)
  | _ => none
def cmpI (p : Int → Int → Bool) : D → D → Option D
  | .int i, .int j => some (.bl (p i j))
  | _, _ => none
def COp.fn : COp → D → D → Option D
  | .eq => fun d e => (eqX d e).map D.bl
  | .ne => fun d e => (eqD d e).map fun b => D.bl (!b)
  | .lt => cmpI fun i j => decide (i < j)
  | .le => cmpI fun i j => decide (i ≤ j)
  | .gt => cmpI fun i j => decide (j < i)
  | .ge => cmpI fun i j => decide (j ≤ i)
  | .isin => fun d e => (inD d e).map D.bl
  | .notin => fun d e => (inD d e).map fun b => D.bl (!b)

/-! ### meanings -/
def bindE (r : RE) (k : D → En → RE) : RE :=
  match r with
  | .ok d δ => k d δ
  | .rz c δ => .rz c δ
  | .bad => .bad
def ofO (o : Option D) (δ : En) : RE :=
  match o with
  | some d => .ok d δ
  | none => .bad
def ownD : O → D
  | .lst ds => .lst ds
  | .dic ks ds => .dic ks ds
def dVar (i : Nat) : Den := fun δ =>
  match δ[i]? with
  | some (.va d) => .ok d δ
  | some (.ow o) => .ok (ownD o) (δ.set i (.va (ownD o)))
  | _ => .bad
def dCst (d : D) : Den := fun δ => .ok d δ
def dBin (g : D → D → Option D) (fa fb : Den) : Den := fun δ => bindE (fa δ) fun x δ1 => bindE (fb δ1) fun y δ2 => ofO (g x y) δ2
def dUn (g : D → Option D) (fa : Den) : Den := fun δ => bindE (fa δ) fun x δ1 => ofO (g x) δ1
inductive RA where
  | ok (ds : List D) (δ : En) | rz (c : Exc) (δ : En) | bad
def bindA (r : RA) (k : List D → En → RE) : RE :=
  match r with
  | .ok d δ => k d δ
  | .rz c δ => .rz c δ
  | .bad => .bad
def consA (r : RE) (k : D → En → RA) : RA :=
  match r with
  | .ok d δ => k d δ
  | .rz c δ => .rz c δ
  | .bad => .bad
def bindAA (r : RA) (k : List D → En → RA) : RA :=
  match r with
  | .ok d δ => k d δ
  | .rz c δ => .rz c δ
  | .bad => .bad
def dArgs : List Den → En → RA
  | [], δ => .ok [] δ
  | f :: fs, δ => consA (f δ) fun d δ1 => bindAA (dArgs fs δ1) fun ds δ2 => .ok (d :: ds) δ2
def dTup (fs : List Den) : Den := fun δ => bindA (dArgs fs δ) fun ds δ1 => if ds.length ≤ 1000000 then .ok (.tup ds) δ1 else .bad
def dLst (fs : List Den) : Den := fun δ => bindA (dArgs fs δ) fun ds δ1 => if ds.length ≤ 1000000 then .ok (.lst ds) δ1 else .bad
/-- a pure function of data; ow: what it gives is the caller's own; okp, owp: and what its taken thing holds now -/
inductive RD where
  | ok (d : D) | ow (o : O) | okp (d : D) (o : O) | owp (r o : O) | rz (c : Exc) | bad
def dBi (g : List D → Option D) (fs : List Den) : Den := fun δ => bindA (dArgs fs δ) fun ds δ1 => ofO (g ds) δ1
def ofD (r : RD) (δ : En) : RE :=
  match r with
  | .ok d => .ok d δ
  | .ow o => .ok (ownD o) δ
  | .rz c => .rz c δ
  | _ => .bad
def dCall (g : List D → RD) (fs : List Den) : Den := fun δ => bindA (dArgs fs δ) fun ds δ1 => ofD (g ds) δ1
/-- a test -/
def bindT (r : RE) (k : Bool → En → RE) : RE := bindE r fun d δ => match d with
  | .bl b => k b δ
  | _ => .bad
def notD : D → Option D
  | .bl b => some (.bl (!b))
  | _ => none
def dAnd (fa fb : Den) : Den := fun δ => bindT (fa δ) fun b δ1 => if b then fb δ1 else .ok (.bl false) δ1
def dOr (fa fb : Den) : Den := fun δ => bindT (fa δ) fun b δ1 => if b then .ok (.bl true) δ1 else fb δ1
def dIte (fc fa fb : Den) : Den := fun δ => bindT (fc δ) fun b δ1 => if b then fa δ1 else fb δ1
def isnD (neg : Bool) (d : D) : Option D := match d with
  | .non => some (.bl (!neg))
  | _ => some (.bl neg)

/-- what is wanted of an exception; the classes' places -/
structure Wi where
  w : WX
  ct : Nat → Addr
/-! ### what a reading asks -/
section
variable (K : PySem.W.Frag) (W : Wi) (G : Gh) (σ : L2.St)
def PoE (H0 : Hp) (r : RE) (Q : VK) : Prop :=
  match r with
  | .ok d δ => ∀ v H0' H', Rl K G δ σ H0' H' → Same H0 H0' → Rep K H0' v d → Q v H'
  | .rz c δ => ∀ cls dd H0' H', Rl K G δ σ H0' H' → Same H0 H0' → ExIs K W.ct c cls dd H' → W.w cls dd σ H'
  | .bad => False
def PoT (H0 : Hp) (r : RE) (Q : Bool → Hp → Prop) : Prop :=
  match r with
  | .ok d δ => ∃ b, d = .bl b ∧ ∀ H0' H', Rl K G δ σ H0' H' → Same H0 H0' → Q b H'
  | .rz c δ => ∀ cls dd H0' H', Rl K G δ σ H0' H' → Same H0 H0' → ExIs K W.ct c cls dd H' → W.w cls dd σ H'
  | .bad => False
def PoA (H0 : Hp) (r : RA) (Q : List V → Hp → Prop) : Prop :=
  match r with
  | .ok ds δ => ∀ vs H0' H', Rl K G δ σ H0' H' → Same H0 H0' → Reps K H0' vs ds → Q vs H'
  | .rz c δ => ∀ cls dd H0' H', Rl K G δ σ H0' H' → Same H0 H0' → ExIs K W.ct c cls dd H' → W.w cls dd σ H'
  | .bad => False
end
def tM (K : PySem.W.Frag) (W : Wi) (f : Den) : TE := fun σ H Q => ∃ G δ H0, Rl K G δ σ H0 H ∧ PoE K W G σ H0 (f δ) Q
def tT (K : PySem.W.Frag) (W : Wi) (f : Den) : TT := fun σ H Q => ∃ G δ H0, Rl K G δ σ H0 H ∧ PoT K W G σ H0 (f δ) Q
def tA (K : PySem.W.Frag) (W : Wi) (f : En → RA) : TA := fun σ H Q => ∃ G δ H0, Rl K G δ σ H0 H ∧ PoA K W G σ H0 (f δ) Q
theorem PE_imp {X : Cx} {e : Expr} {t t' : TE} (h : PE X e t) (i : ∀ σ H Q, t' σ H Q → t σ H Q) : PE X e t' := ⟨fun pins s σ H Q I q => h.run pins s σ H Q I (i σ H Q q)⟩
theorem PT_imp {X : Cx} {e : Expr} {t t' : TT} (h : PT X e t) (i : ∀ σ H Q, t' σ H Q → t σ H Q) : PT X e t' := ⟨fun pins s σ H Q I q => h.run pins s σ H Q I (i σ H Q q)⟩
theorem PA_imp {X : Cx} {e : List Expr} {t t' : TA} (h : PA X e t) (i : ∀ σ H Q, t' σ H Q → t σ H Q) : PA X e t' := ⟨fun pos pins s σ H Q I q => h.run pos pins s σ H Q I (i σ H Q q)⟩
theorem PS_imp {X : Cx} {e : Stmt} {t t' : TS} (h : PS X e t) (i : ∀ D σ H, t' D σ H → t D σ H) : PS X e t' := ⟨fun pins s σ H D I q => h.run pins s σ H D I (i D σ H q)⟩
theorem PSs_imp {X : Cx} {e : List Stmt} {t t' : TS} (h : PSs X e t) (i : ∀ D σ H, t' D σ H → t D σ H) : PSs X e t' := ⟨fun pins s σ H D I q => h.run pins s σ H D I (i D σ H q)⟩
section
variable {K : PySem.W.Frag} {W : Wi} {G : Gh} {σ : L2.St} {H0 H0' : Hp} {r : RE} {Q Q' : VK}
theorem PoE.up (h : PoE K W G σ H0 r Q) (s : Same H0 H0') : PoE K W G σ H0' r Q := by
  cases r with
  | ok d δ => exact fun v H0'' H' R s' p => h v H0'' H' R (s.trans s') p
  | rz c δ => exact fun cls dd H0'' H' R s' => h cls dd H0'' H' R (s.trans s')
  | bad => exact h
theorem PoA.up {r : RA} {Q : List V → Hp → Prop} (h : PoA K W G σ H0 r Q) (s : Same H0 H0') : PoA K W G σ H0' r Q := by
  cases r with
  | ok d δ => exact fun v H0'' H' R s' p => h v H0'' H' R (s.trans s') p
  | rz c δ => exact fun cls dd H0'' H' R s' => h cls dd H0'' H' R (s.trans s')
  | bad => exact h
theorem PoT.up {Q : Bool → Hp → Prop} (h : PoT K W G σ H0 r Q) (s : Same H0 H0') : PoT K W G σ H0' r Q := by
  cases r with
  | ok d δ => obtain ⟨b, e, h⟩ := h; exact ⟨b, e, fun H0'' H' R s' => h H0'' H' R (s.trans s')⟩
  | rz c δ => exact fun cls dd H0'' H' R s' => h cls dd H0'' H' R (s.trans s')
  | bad => exact h
theorem PoE.bind {k : D → En → RE} (h : PoE K W G σ H0 (bindE r k) Q)
    (hk : ∀ d δ v H1 H', Rl K G δ σ H1 H' → Same H0 H1 → Rep K H1 v d → PoE K W G σ H1 (k d δ) Q → Q' v H') : PoE K W G σ H0 r Q' := by
  cases r with
  | ok d δ => exact fun v H1 H' R s p => hk d δ v H1 H' R s p (h.up s)
  | rz c δ => exact h
  | bad => exact h
theorem PoA.bind {r : RA} {Q' : List V → Hp → Prop} {k : List D → En → RE} (h : PoE K W G σ H0 (bindA r k) Q)
    (hk : ∀ d δ v H1 H', Rl K G δ σ H1 H' → Same H0 H1 → Reps K H1 v d → PoE K W G σ H1 (k d δ) Q → Q' v H') : PoA K W G σ H0 r Q' := by
  cases r with
  | ok d δ => exact fun v H1 H' R s p => hk d δ v H1 H' R s p (h.up s)
  | rz c δ => exact h
  | bad => exact h
theorem PoE.consA {k : D → En → RA} {Q : List V → Hp → Prop} (h : PoA K W G σ H0 (consA r k) Q)
    (hk : ∀ d δ v H1 H', Rl K G δ σ H1 H' → Same H0 H1 → Rep K H1 v d → PoA K W G σ H1 (k d δ) Q → Q' v H') : PoE K W G σ H0 r Q' := by
  cases r with
  | ok d δ => exact fun v H1 H' R s p => hk d δ v H1 H' R s p (h.up s)
  | rz c δ => exact h
  | bad => exact h
theorem PoA.bindAA {r : RA} {k : List D → En → RA} {Q Q' : List V → Hp → Prop} (h : PoA K W G σ H0 (bindAA r k) Q)
    (hk : ∀ d δ v H1 H', Rl K G δ σ H1 H' → Same H0 H1 → Reps K H1 v d → PoA K W G σ H1 (k d δ) Q → Q' v H') : PoA K W G σ H0 r Q' := by
  cases r with
  | ok d δ => exact fun v H1 H' R s p => hk d δ v H1 H' R s p (h.up s)
  | rz c δ => exact h
  | bad => exact h
/-- a test ahead -/
theorem PoT.bind {k : Bool → En → RE} {Q' : Bool → Hp → Prop} (h : PoE K W G σ H0 (bindT r k) Q)
    (hk : ∀ b δ H1 H', Rl K G δ σ H1 H' → Same H0 H1 → PoE K W G σ H1 (k b δ) Q → Q' b H') : PoT K W G σ H0 r Q' := by
  cases r with
  | ok d δ =>
    cases d with
    | bl b => exact ⟨b, rfl, fun H1 H' R s => hk b δ H1 H' R s (PoE.up h s)⟩
    | non => exact absurd h (fun z => z)
    | int i => exact absurd h (fun z => z)
    | str i => exact absurd h (fun z => z)
    | tup i => exact absurd h (fun z => z)
    | lst i => exact absurd h (fun z => z)
    | dic i j => exact absurd h (fun z => z)
    | exc i => exact absurd h (fun z => z)
  | rz c δ => exact h
  | bad => exact h
theorem PoT.bindQ {k : Bool → En → RE} {Q Q' : Bool → Hp → Prop} (h : PoT K W G σ H0 (bindT r k) Q)
    (hk : ∀ b δ H1 H', Rl K G δ σ H1 H' → Same H0 H1 → PoT K W G σ H1 (k b δ) Q → Q' b H') : PoT K W G σ H0 r Q' := by
  cases r with
  | ok d δ =>
    cases d with
    | bl b => exact ⟨b, rfl, fun H1 H' R s => hk b δ H1 H' R s (PoT.up h s)⟩
    | non => exact absurd h (fun z => z)
    | int i => exact absurd h (fun z => z)
    | str i => exact absurd h (fun z => z)
    | tup i => exact absurd h (fun z => z)
    | lst i => exact absurd h (fun z => z)
    | dic i j => exact absurd h (fun z => z)
    | exc i => exact absurd h (fun z => z)
  | rz c δ => exact h
  | bad => exact h
theorem PoT.toE {Q : Bool → Hp → Prop} (h : PoT K W G σ H0 r Q) : PoE K W G σ H0 r (fun v H' => ∃ b, v = .bl b ∧ Q b H') := by
  cases r with
  | ok d δ =>
    obtain ⟨b, rfl, q⟩ := h
    exact fun v H1 H' R s p => by
      cases p
      exact ⟨b, rfl, q H1 H' R s⟩
  | rz c δ => exact h
  | bad => exact h
theorem PoE.val {d : D} {δ : En} {v : V} {H : Hp} (h : PoE K W G σ H0 (.ok d δ) Q) (R : Rl K G δ σ H0 H) (p : Rep K H0 v d) : Q v H := h v H0 H R (Same.refl _) p
theorem PoE.new {d : D} {δ : En} {v : V} {H H1 H' : Hp} (h : PoE K W G σ H0 (.ok d δ) Q) (R : Rl K G δ σ H0 H) (g : Gr H0 H H1 H') (p : Rep K H1 v d) : Q v H' := h v H1 H' (R.grow g) g.h0 p
end

/-! ### operations by values -/
def rM (K : PySem.W.Frag) (g : D → D → Option D) : R2 := fun x y H Q => ∃ H0 d e z, Same H0 H ∧ Rep K H0 x d ∧ Rep K H0 y e ∧ g d e = some z ∧ ∀ v H1 H', Gr H0 H H1 H' → Rep K H1 v z → Q v H'
def rMu (K : PySem.W.Frag) (g : D → Option D) : V → Hp → VK → Prop := fun x H Q => ∃ H0 d z, Same H0 H ∧ Rep K H0 x d ∧ g d = some z ∧ ∀ v H1 H', Gr H0 H H1 H' → Rep K H1 v z → Q v H'
def rMl (K : PySem.W.Frag) (g : List D → Option D) : List V → Hp → VK → Prop := fun xs H Q => ∃ H0 ds z, Same H0 H ∧ Reps K H0 xs ds ∧ g ds = some z ∧ ∀ v H1 H', Gr H0 H H1 H' → Rep K H1 v z → Q v H'
theorem OpR_imp {X : Cx} {f : Value → Value → Sem Value} {r r' : R2} (h : OpR X f r) (i : ∀ x y H Q, r' x y H Q → r x y H Q) : OpR X f r' := fun pins s σ H x y v u Q I rx ry q => h pins s σ H x y v u Q I rx ry (i _ _ _ _ q)
theorem OpR_or {X : Cx} {f : Value → Value → Sem Value} {r r' : R2} (h : OpR X f r) (h' : OpR X f r') : OpR X f (fun x y H Q => r x y H Q ∨ r' x y H Q) := fun pins s σ H x y v u Q I rx ry q => q.elim (h pins s σ H x y v u Q I rx ry) (h' pins s σ H x y v u Q I rx ry)
theorem UnR_imp {X : Cx} {f : Value → Sem Value} {r r' : V → Hp → VK → Prop} (h : UnR X f r) (i : ∀ x H Q, r' x H Q → r x H Q) : UnR X f r' := fun pins s σ H x v Q I rx q => h pins s σ H x v Q I rx (i _ _ _ q)
theorem CallR_imp {X : Cx} {f : Value} {r r' : List V → Hp → VK → Prop} (h : CallR X f r) (i : ∀ x H Q, r' x H Q → r x H Q) : CallR X f r' := fun pins s σ H x v Q I rx q => h pins s σ H x v Q I rx (i _ _ _ q)
theorem CallR_or {X : Cx} {f : Value} {r r' : List V → Hp → VK → Prop} (h : CallR X f r) (h' : CallR X f r') : CallR X f (fun x H Q => r x H Q ∨ r' x H Q) := fun pins s σ H x v Q I rx q => q.elim (h pins s σ H x v Q I rx) (h' pins s σ H x v Q I rx)

section
variable {X : Cx}
theorem op_mulM : OpR X (binaryOp .Mult) (rI (fun i j => mulOk i j = true) fun i j => .int (i * j)) := opI fun i j _ _ _ _ _ hc q => mul_int q (by
  unfold mulOk at hc
  rw [decide_eq_true_eq] at hc
  have b : ∀ x : Int, Builtin.Int.intBits x ≤ x.natAbs.log2 + 1 := fun x => by
    unfold Builtin.Int.intBits
    split <;> omega
  have h1 := b i
  have h2 := b j
  have e : bitsLine = 134217728 := by decide
  unfold IntMulOk
  intro z
  rw [Bool.and_eq_true] at z
  have z2 := z.2
  unfold Builtin.Int.intTooBig at z2
  have z3 := of_decide_eq_true z2
  rw [e] at z3
  omega)
theorem op_fdivM : OpR X (binaryOp .FloorDiv) (rI (fun _ j => divOk j = true) fun i j => .int (i.fdiv j)) := opI fun i j _ _ _ _ _ hc q => by
  unfold divOk at hc
  rw [Bool.and_eq_true, decide_eq_true_eq, decide_eq_true_eq] at hc
  exact floordiv_int hc.1 q (.inl (PyProof.noPylong_of_log2 hc.2))
theorem op_powM : OpR X (binaryOp .Pow) (rI (fun i j => powOk i j = true) fun i j => .int (i ^ j.toNat)) := OpR_imp op_pow fun x y H Q ⟨i, j, ex, ey, c, q⟩ => ⟨i, j, ex, ey, by
  have c : powOk i j = true := c
  unfold powOk at c
  rw [Bool.and_eq_true, Bool.and_eq_true, decide_eq_true_eq, decide_eq_true_eq, decide_eq_true_eq] at c
  exact ⟨c.1.1, c.1.2, c.2⟩, q⟩
theorem opM_int {f : Value → Value → Sem Value} {C : Int → Int → Prop} {gi : Int → Int → V} {g : D → D → Option D} (h : OpR X f (rI C gi))
    (hg : ∀ d e z, g d e = some z → ∃ i j, d = .int i ∧ e = .int j ∧ C i j ∧ ∀ H, Rep X.K H (gi i j) z) : OpR X f (rM X.K g) := OpR_imp h fun x y H Q ⟨H0, d, e, z, s, rx, ry, hz, q⟩ => by
  obtain ⟨i, j, rfl, rfl, c, r⟩ := hg d e z hz
  cases rx
  cases ry
  exact ⟨i, j, rfl, rfl, c, q _ H0 H (Gr.refl s) (r H0)⟩
theorem opM_int0 {f : Value → Value → Sem Value} {gi : Int → Int → V} {g : D → D → Option D} (h : OpR X f (rI0 gi))
    (hg : ∀ d e z, g d e = some z → ∃ i j, d = .int i ∧ e = .int j ∧ ∀ H, Rep X.K H (gi i j) z) : OpR X f (rM X.K g) := OpR_imp h fun x y H Q ⟨H0, d, e, z, s, rx, ry, hz, q⟩ => by
  obtain ⟨i, j, rfl, rfl, r⟩ := hg d e z hz
  cases rx
  cases ry
  exact ⟨i, j, rfl, rfl, q _ H0 H (Gr.refl s) (r H0)⟩
theorem addD_some {d e z : D} (h : addD d e = some z) : (∃ i j, d = .int i ∧ e = .int j ∧ z = .int (i + j)) ∨ catD d e = some z := by
  unfold addD at h
  split at h
  · cases h; exact .inl ⟨_, _, rfl, rfl, rfl⟩
  · exact .inr h
/-- list + list, whichever lists -/
def rCatL (K : PySem.W.Frag) : R2 := fun x y H Q => ∃ a b xs ys, x = .ref a ∧ y = .ref b ∧ SqL K H a xs ∧ SqL K H b ys ∧ xs.length + ys.length ≤ sizeLine ∧ ∀ p, H p = none → Q (.ref p) (upd H p (.lst (xs ++ ys)))
theorem op_catL : OpR X (binaryOp .Add) (rCatL X.K) := by
  intro pins s σ H x y v u Q I rx ry h
  obtain ⟨a, b, xs, ys, rfl, rfl, ha, hb, hz, q⟩ := h
  cases rx
  cases ry
  obtain ⟨its, r1, ⟨⟨cls, dd, data, sl⟩, n, ho, hc, hdn, hd⟩, _⟩ := I.list ha
  obtain ⟨its2, r2, ⟨⟨cls2, dd2, data2, sl2⟩, n2, ho2, hc2, hdn2, hd2⟩, _⟩ := I.list hb
  simp only at hc hd hc2 hd2
  subst hc hd hc2 hd2
  have e : its.toArray ++ its2.toArray = (its ++ its2).toArray := by simp
  have l1 := r1.length
  have l2 := r2.length
  refine concat_meets ⟨_, ho, rfl⟩ ⟨_, ho2, rfl⟩ noFill_list_add seq_list_add F.slot_list_add F.entry_list_add (F.args_list_add_2 _ _) (PyProof.Rows.list_addW a b its.toArray its2.toArray n n2 dd dd2 sl sl2 (by rw [List.size_toArray, List.size_toArray]; omega)) ⟨ho, ho2, ?_⟩
  rw [e]
  exact ⟨.ref _, _, I.lnew (t' := s.toks) (r1.append r2) (by rw [List.length_append]; omega), rfl, q _ I.fresh⟩
theorem op_catM : OpR X (binaryOp .Add) (rM X.K catD) := OpR_imp (OpR_or (OpR_or op_add_str op_catA) op_catL) fun x y H Q ⟨H0, d, e, z, s, rx, ry, hz, q⟩ => by
  have sz : ∀ {n : Nat}, n ≤ 1000000 → n ≤ sizeLine := fun h => Nat.le_trans h (by decide)
  unfold catD at hz
  split at hz
  · split at hz
    · rename_i c
      cases hz
      cases rx
      cases ry
      exact .inl (.inl ⟨_, _, rfl, rfl, sz c, q _ H0 H (Gr.refl s) (.str _)⟩)
    · cases hz
  · split at hz
    · rename_i c
      cases hz
      cases rx with
      | @tup a1 xs1 ds1 h1 r1 =>
        cases ry with
        | @tup a2 xs2 ds2 h2 r2 =>
          refine .inl (.inr ⟨_, _, _, _, rfl, rfl, Same.seqT s h1, Same.seqT s h2, by rw [r1.length, r2.length]; exact sz c, fun z => ?_, fun _ z => ?_, fun _ _ p hp => ?_⟩)
          · subst z; cases r1; exact q _ H0 H (Gr.refl s) (.tup h2 r2)
          · subst z; cases r2; exact q _ H0 H (Gr.refl s) (by rw [List.append_nil]; exact .tup h1 r1)
          · have g := Gr.new (o := .tup (xs1 ++ xs2)) s hp
            exact q _ _ _ g (.tup (.inl (.inl upd_same)) ((r1.append r2).mono g.h0))
    · cases hz
  · split at hz
    · rename_i c
      cases hz
      cases rx with
      | @lst a1 xs1 ds1 h1 r1 =>
        cases ry with
        | @lst a2 xs2 ds2 h2 r2 =>
          refine .inr ⟨_, _, _, _, rfl, rfl, s.seq h1, s.seq h2, by rw [r1.length, r2.length]; exact sz c, fun p hp => ?_⟩
          have g := Gr.new (o := .lst (xs1 ++ xs2)) s hp
          exact q _ _ _ g (.lst (.inl (.inl upd_same)) ((r1.append r2).mono g.h0))
    · cases hz
  · cases hz
theorem subD_some {d e z : D} (h : subD d e = some z) : ∃ i j, d = .int i ∧ e = .int j ∧ z = .int (i - j) := by
  unfold subD at h
  split at h
  · cases h; exact ⟨_, _, rfl, rfl, rfl⟩
  · cases h
theorem mulD_some {d e z : D} (h : mulD d e = some z) : (∃ i j, d = .int i ∧ e = .int j ∧ mulOk i j = true ∧ z = .int (i * j)) ∨ ∃ ds k, d = .tup ds ∧ e = .int k ∧ ds ≠ [] ∧ 2 ≤ k ∧ k ≤ 1000 ∧ ds.length ≤ 1000 ∧ z = .tup (List.replicate k.toNat ds).flatten := by
  unfold mulD at h
  split at h
  · split at h
    · rename_i c; cases h; exact .inl ⟨_, _, rfl, rfl, c, rfl⟩
    · cases h
  · split at h
    · rename_i c
      cases h
      rw [Bool.and_eq_true, Bool.and_eq_true, Bool.and_eq_true, decide_eq_true_eq, decide_eq_true_eq, decide_eq_true_eq] at c
      exact .inr ⟨_, _, rfl, rfl, fun e => by rw [e] at c; simp at c, c.1.1.2, c.1.2, c.2, rfl⟩
    · cases h
  · cases h
theorem Reps.repT {K : PySem.W.Frag} {H : Hp} {vs : List V} {ds : List D} (r : Reps K H vs ds) : ∀ n : Nat, Reps K H (List.replicate n vs).flatten (List.replicate n ds).flatten
  | 0 => .nil
  | n + 1 => by
    rw [List.replicate_succ, List.replicate_succ, List.flatten_cons, List.flatten_cons]
    exact r.append (Reps.repT r n)
theorem fdivD_some {d e z : D} (h : fdivD d e = some z) : ∃ i j, d = .int i ∧ e = .int j ∧ divOk j = true ∧ z = .int (i.fdiv j) := by
  unfold fdivD at h
  split at h
  · split at h
    · rename_i c; cases h; exact ⟨_, _, rfl, rfl, c, rfl⟩
    · cases h
  · cases h
theorem modD_some {d e z : D} (h : modD d e = some z) : ∃ i j, d = .int i ∧ e = .int j ∧ j ≠ 0 ∧ z = .int (i.fmod j) := by
  unfold modD at h
  split at h
  · split at h
    · cases h
    · rename_i c; cases h; exact ⟨_, _, rfl, rfl, c, rfl⟩
  · cases h
theorem powD_some {d e z : D} (h : powD d e = some z) : ∃ i j, d = .int i ∧ e = .int j ∧ powOk i j = true ∧ z = .int (i ^ j.toNat) := by
  unfold powD at h
  split at h
  · split at h
    · rename_i c; cases h; exact ⟨_, _, rfl, rfl, c, rfl⟩
    · cases h
  · cases h
theorem shlD_some {d e z : D} (h : shlD d e = some z) : ∃ i j, d = .int i ∧ e = .int j ∧ CShl i j ∧ z = .int (i * 2 ^ j.toNat) := by
  unfold shlD at h
  split at h
  · split at h
    · rename_i i j c
      cases h
      unfold shlOk at c
      simp only [Bool.and_eq_true, decide_eq_true_eq] at c
      exact ⟨_, _, rfl, rfl, ⟨c.1, c.2⟩, rfl⟩
    · cases h
  · cases h
theorem opB (o : BOp) : OpR X (binaryOp o.op) (rM X.K o.fn) := by
  cases o with
  | add =>
    exact OpR_imp (OpR_or op_add op_catM) fun x y H Q ⟨H0, d, e, z, s, rx, ry, hz, q⟩ => by
      rcases addD_some hz with ⟨i, j, rfl, rfl, rfl⟩ | h
      · cases rx
        cases ry
        exact .inl ⟨i, j, rfl, rfl, q _ H0 H (Gr.refl s) (.int _)⟩
      · exact .inr ⟨H0, d, e, z, s, rx, ry, h, q⟩
  | sub => exact opM_int0 op_sub fun d e z h => by obtain ⟨i, j, rfl, rfl, rfl⟩ := subD_some h; exact ⟨i, j, rfl, rfl, fun _ => .int _⟩
  | mul =>
    exact OpR_imp (OpR_or op_mulM op_repT) fun x y H Q ⟨H0, d, e, z, s, rx, ry, hz, q⟩ => by
      rcases mulD_some hz with ⟨i, j, rfl, rfl, c, rfl⟩ | ⟨ds, k, rfl, rfl, n0, k0, k1, l, rfl⟩
      · cases rx
        cases ry
        exact .inl ⟨i, j, rfl, rfl, c, q _ H0 H (Gr.refl s) (.int _)⟩
      · cases ry
        cases rx with
        | @tup a1 xs1 ds1 h1 r1 =>
          refine .inr ⟨_, _, _, rfl, rfl, Same.seqT s h1, fun z => ?_, k0, k1, by rw [r1.length]; exact l, fun p hp => ?_⟩
          · subst z; cases r1; exact n0 rfl
          · have g := Gr.new (o := .tup (List.replicate k.toNat xs1).flatten) s hp
            exact q _ _ _ g (.tup (.inl (.inl upd_same)) ((r1.repT k.toNat).mono g.h0))
  | fdiv => exact opM_int op_fdivM fun d e z h => by obtain ⟨i, j, rfl, rfl, c, rfl⟩ := fdivD_some h; exact ⟨i, j, rfl, rfl, c, fun _ => .int _⟩
  | mod => exact opM_int op_modN fun d e z h => by obtain ⟨i, j, rfl, rfl, c, rfl⟩ := modD_some h; exact ⟨i, j, rfl, rfl, c, fun _ => .int _⟩
  | pow => exact opM_int op_powM fun d e z h => by obtain ⟨i, j, rfl, rfl, c, rfl⟩ := powD_some h; exact ⟨i, j, rfl, rfl, c, fun _ => .int _⟩
  | shl => exact opM_int op_shlW fun d e z h => by obtain ⟨i, j, rfl, rfl, c, rfl⟩ := shlD_some h; exact ⟨i, j, rfl, rfl, c, fun _ => .int _⟩

/-! ### comparisons -/
mutual
theorem Rep.dp {K : PySem.W.Frag} {H : Hp} : ∀ {v : V} {d : D}, Rep K H v d → (toPy d).canLay0 = true → Dp K H v (toPy d)
  | _, _, .non, _ => by unfold toPy; exact .non
  | _, _, .bl b, _ => by unfold toPy; exact .bl b
  | _, _, .int i, _ => by unfold toPy; exact .int i
  | _, _, .str x, _ => by unfold toPy; exact .str x
  | _, _, .tup h r, c => by
    unfold toPy at c ⊢
    unfold PyData.canLay0 at c
    exact .tup h (Reps.dp r c)
  | _, _, .lst h r, c => by
    unfold toPy at c ⊢
    unfold PyData.canLay0 at c
    exact .lst h (Reps.dp r c)
  | _, _, .dic _ _ _ _, c => by
    unfold toPy at c
    cases c
  | _, _, .exc _ _, c => by
    unfold toPy at c
    cases c
theorem Reps.dp {K : PySem.W.Frag} {H : Hp} : ∀ {v : List V} {d : List D}, Reps K H v d → PyData.canLayAll0 (toPys d) = true → DpAll K H v (toPys d)
  | _, _, .nil, _ => by unfold toPys; exact .nil
  | _, _, .cons h r, c => by
    unfold toPys at c ⊢
    unfold PyData.canLayAll0 at c
    rw [Bool.and_eq_true] at c
    exact .cons (Rep.dp h c.1) (Reps.dp r c.2)
end
mutual
theorem Dp.up {K : PySem.W.Frag} {H H' : Hp} (e : Same H H') : ∀ {v : V} {d : PyData}, Dp K H v d → Dp K H' v d
  | _, _, .non => .non
  | _, _, .bl b => .bl b
  | _, _, .int i => .int i
  | _, _, .str x => .str x
  | _, _, .tup h r => .tup (Same.seqT e h) (DpAll.up e r)
  | _, _, .lst h r => .lst (e.seq h) (DpAll.up e r)
theorem DpAll.up {K : PySem.W.Frag} {H H' : Hp} (e : Same H H') : ∀ {v : List V} {d : List PyData}, DpAll K H v d → DpAll K H' v d
  | _, _, .nil => .nil
  | _, _, .cons h r => .cons (Dp.up e h) (DpAll.up e r)
end
theorem eqD_some {d e : D} {b : Bool} (h : eqD d e = some b) : SeqAt.shaped (toPy d) = true ∧ SeqAt.shaped (toPy e) = true ∧ b = PyData.eqv (toPy d) (toPy e) := by
  unfold eqD at h
  split at h
  · rename_i c
    rw [Bool.and_eq_true] at c
    exact ⟨c.1, c.2, (Option.some.inj h).symm⟩
  · cases h
theorem eqX_or (d e : D) : eqX d e = eqD d e ∨ ∃ ks ds b, d = .dic ks ds ∧ e = .str b := by
  cases d <;> first | exact .inl rfl | (cases e <;> first | exact .inl rfl | exact .inr ⟨_, _, _, rfl, rfl⟩)
theorem eqX_of {d e : D} {z : Bool} (h : eqD d e = some z) : eqX d e = some z := by
  rcases eqX_or d e with e1 | ⟨ks, ds, b, rfl, rfl⟩
  · rw [e1, h]
  · exfalso
    have := eqD_some h
    have k := this.1
    revert k
    unfold toPy
    decide
theorem op_eqM (hu : X.A.units + 64 < cLine) : OpR X (compareOp .Eq) (rM X.K (COp.fn .eq)) := OpR_imp (OpR_or (op_eqD hu) (ZV.op_eqDS (by omega))) fun x y H Q ⟨H0, d, e, z, s, rx, ry, hz, q⟩ => by
  have hz : (eqX d e).map D.bl = some z := hz
  rcases eqX_or d e with e1 | ⟨ks, ds, b, rfl, rfl⟩
  case inr =>
    cases hz
    cases rx with
    | dic h1 h2 h3 h4 =>
      cases ry
      exact .inr ⟨_, _, _, rfl, rfl, s _ _ h1, q _ H0 H (Gr.refl s) (.bl _)⟩
  rw [e1] at hz
  refine .inl ?_
  cases hb : eqD d e with
  | none => rw [hb] at hz; cases hz
  | some b =>
    rw [hb] at hz
    cases hz
    obtain ⟨s1, s2, rfl⟩ := eqD_some hb
    exact ⟨toPy d, toPy e, Dp.up s (rx.dp (SeqAt.canLay_of_shaped s1)), Dp.up s (ry.dp (SeqAt.canLay_of_shaped s2)), s1, s2, q _ H0 H (Gr.refl s) (.bl _)⟩
theorem op_neM (hu : X.A.units + 64 < cLine) : OpR X (compareOp .NotEq) (rM X.K (COp.fn .ne)) := OpR_imp (op_neD hu) fun x y H Q ⟨H0, d, e, z, s, rx, ry, hz, q⟩ => by
  have hz : (eqD d e).map (fun b => D.bl (!b)) = some z := hz
  cases hb : eqD d e with
  | none => rw [hb] at hz; cases hz
  | some b =>
    rw [hb] at hz
    cases hz
    obtain ⟨s1, s2, rfl⟩ := eqD_some hb
    exact ⟨toPy d, toPy e, Dp.up s (rx.dp (SeqAt.canLay_of_shaped s1)), Dp.up s (ry.dp (SeqAt.canLay_of_shaped s2)), s1, s2, q _ H0 H (Gr.refl s) (.bl _)⟩
theorem cmpI_some {p : Int → Int → Bool} {d e z : D} (h : cmpI p d e = some z) : ∃ i j, d = .int i ∧ e = .int j ∧ z = .bl (p i j) := by
  unfold cmpI at h
  split at h
  · cases h; exact ⟨_, _, rfl, rfl, rfl⟩
  · cases h
theorem rep_flat {K : PySem.W.Frag} {H : Hp} {v : V} {d : D} (r : Rep K H v d) (f : flatD d = true) : v = vD d ∧ flatV v = true := by
  cases r <;> first | exact ⟨rfl, rfl⟩ | cases f
theorem reps_flat {K : PySem.W.Frag} {H : Hp} : ∀ {vs : List V} {ds : List D}, Reps K H vs ds → ds.all flatD = true → vs = ds.map vD ∧ vs.all flatV = true
  | _, _, .nil, _ => ⟨rfl, rfl⟩
  | _, _, .cons r t, f => by
    rw [List.all_cons, Bool.and_eq_true] at f
    obtain ⟨e1, e2⟩ := rep_flat r f.1
    obtain ⟨f1, f2⟩ := reps_flat t f.2
    rw [List.all_cons, e2, f2, List.map_cons, ← e1, ← f1]
    exact ⟨rfl, rfl⟩
theorem op_inM {n : Bool} {op : CmpOp} (h1 : OpR X (compareOp op) (if n then rNotInD X.K else rInD X.K)) (h2 : OpR X (compareOp op) (rIn X.K n))
    (h3 : OpR X (compareOp op) (fun x y H Q => ∃ i j, x = .str i ∧ y = .str j ∧ Q (.bl (if n then !(!(Builtin.Str.occurrences j i 0 j.length 1).isEmpty) else !(Builtin.Str.occurrences j i 0 j.length 1).isEmpty)) H)) :
    OpR X (compareOp op) (rM X.K fun d e => (inD d e).map fun b => D.bl (if n then !b else b)) := OpR_imp (OpR_or (OpR_or h1 h2) h3) fun x y H Q ⟨H0, d, e, z, s, rx, ry, hz, q⟩ => by
  replace hz : (inD d e).map (fun b => D.bl (if n then !b else b)) = some z := hz
  cases hb : inD d e with
  | none => rw [hb] at hz; cases hz
  | some b =>
    rw [hb] at hz
    cases hz
    unfold inD at hb
    split at hb
    · split at hb
      · rename_i c
        cases hb
        rw [Bool.and_eq_true] at c
        have l := ry.dp (by unfold toPy; exact SeqAt.canLay_of_shaped c.2)
        unfold toPy at l
        have m := rx.dp (SeqAt.canLay_of_shaped c.1)
        have q' := q _ H0 H (Gr.refl s) (.bl _)
        refine .inl (.inl ?_)
        cases n with
        | true => exact ⟨_, _, Dp.up s m, Dp.up s l, c.1, c.2, q'⟩
        | false => exact ⟨_, _, Dp.up s m, Dp.up s l, c.1, c.2, q'⟩
      · cases hb
    · split at hb
      · rename_i c
        cases hb
        rw [Bool.and_eq_true] at c
        cases ry with
        | tup hq rs =>
          obtain ⟨e1, e2⟩ := reps_flat rs c.2
          obtain ⟨f1, f2⟩ := rep_flat rx c.1
          refine .inl (.inr ⟨_, _, rfl, .inr (Same.seqT s hq), f2, e2, ?_⟩)
          rw [e1, f1]
          exact q _ H0 H (Gr.refl s) (.bl _)
      · cases hb
    · split at hb
      · cases hb
        cases rx
        cases ry
        exact .inr ⟨_, _, rfl, rfl, q _ H0 H (Gr.refl s) (.bl _)⟩
      · cases hb
    · cases hb
theorem opC (o : COp) (hu : X.A.units + 65 < cLine) : OpR X (compareOp o.op) (rM X.K o.fn) := by
  cases o with
  | eq => exact op_eqM (by omega)
  | ne => exact op_neM (by omega)
  | isin => exact op_inM (n := false) (op_inD hu) op_in_seq op_in_str
  | notin => exact op_inM (n := true) (op_notInD hu) op_notIn_seq op_notIn_str
  | lt => exact opM_int0 op_lt fun d e z h => by obtain ⟨i, j, rfl, rfl, rfl⟩ := cmpI_some h; exact ⟨i, j, rfl, rfl, fun _ => .bl _⟩
  | le => exact opM_int0 op_le fun d e z h => by obtain ⟨i, j, rfl, rfl, rfl⟩ := cmpI_some h; exact ⟨i, j, rfl, rfl, fun _ => .bl _⟩
  | gt => exact opM_int0 op_gt fun d e z h => by obtain ⟨i, j, rfl, rfl, rfl⟩ := cmpI_some h; exact ⟨i, j, rfl, rfl, fun _ => .bl _⟩
  | ge => exact opM_int0 op_ge fun d e z h => by obtain ⟨i, j, rfl, rfl, rfl⟩ := cmpI_some h; exact ⟨i, j, rfl, rfl, fun _ => .bl _⟩
end
end Z

namespace Z
open PySem PySem.Spec PyProof.Rows L2

section
variable {X : Cx} {W : Wi} {pos : Pos}
/-! ### simple expressions -/
theorem Rl.own_at {K : PySem.W.Frag} {G : Gh} {δ : En} {σ : L2.St} {H0 H : Hp} (R : Rl K G δ σ H0 H) {i : Nat} {o : O} (e : δ[i]? = some (.ow o)) :
    ∃ a : Addr, σ[i]? = some (some (V.ref a)) ∧ H0 a = none ∧ G.He a = none ∧ OwnAt K H0 H a o := by
  have hl : i < σ.length := by rw [← R.len]; exact (List.getElem?_eq_some_iff.mp e).1
  have q := R.sl i _ _ e (List.getElem?_eq_getElem hl)
  obtain ⟨a, h1, h2⟩ := q
  exact ⟨a, by rw [List.getElem?_eq_getElem hl, h1], h2⟩
theorem Rl.pin_at {K : PySem.W.Frag} {G : Gh} {δ : En} {σ : L2.St} {H0 H : Hp} (R : Rl K G δ σ H0 H) {i : Nat} {o : O} (e : δ[i]? = some (.pi o)) :
    ∃ a : Addr, σ[i]? = some (some (V.ref a)) ∧ H0 a = none ∧ G.He a = none ∧ OwnAt K H0 H a o := by
  have hl : i < σ.length := by rw [← R.len]; exact (List.getElem?_eq_some_iff.mp e).1
  have q := R.sl i _ _ e (List.getElem?_eq_getElem hl)
  obtain ⟨a, h1, h2, h3, h4, _⟩ := q
  exact ⟨a, by rw [List.getElem?_eq_getElem hl, h1], h2, h3, h4⟩
theorem Rl.va_at {K : PySem.W.Frag} {G : Gh} {δ : En} {σ : L2.St} {H0 H : Hp} (R : Rl K G δ σ H0 H) {i : Nat} {d : D} (e : δ[i]? = some (.va d)) :
    ∃ v, σ[i]? = some (some v) ∧ Rep K H0 v d := by
  have hl : i < σ.length := by rw [← R.len]; exact (List.getElem?_eq_some_iff.mp e).1
  obtain ⟨v, h1, h2⟩ := R.sl i _ _ e (List.getElem?_eq_getElem hl)
  exact ⟨v, by rw [List.getElem?_eq_getElem hl, h1], h2⟩
theorem me_var {i : Nat} {x : Str} (h : PE X (.Name x pos) (tVar i)) : PE X (.Name x pos) (tM X.K W (dVar i)) := PE_imp h fun σ H Q ⟨G, δ, H0, R, q⟩ => by
  unfold dVar at q
  cases e : δ[i]? with
  | none => rw [e] at q; exact q.elim
  | some s =>
    rw [e] at q
    cases s with
    | no => exact q.elim
    | pi o => exact q.elim
    | va d =>
      obtain ⟨v, h1, r⟩ := R.va_at e
      exact ⟨v, h1, q.val R r⟩
    | ow o =>
      obtain ⟨a, h1, n0, ne, w⟩ := R.own_at e
      refine ⟨.ref a, h1, ?_⟩
      cases o with
      | lst ds =>
        obtain ⟨vs, hv, rs⟩ := w
        have s1 : Same H0 (upd H0 a (.lst vs)) := fun b u e => by rw [upd_ne (ne_of_none e n0)]; exact e
        exact q (.ref a) _ H (R.freeze e h1 hv n0 ne (.lst (.inl (.inl upd_same)) (rs.mono s1))) s1 (.lst (.inl (.inl upd_same)) (rs.mono s1))
      | dic ks ds =>
        obtain ⟨vs, hv, l, rs⟩ := w
        have s1 : Same H0 (upd H0 a (.dK (ks.zip vs))) := fun b u e => by rw [upd_ne (ne_of_none e n0)]; exact e
        exact q (.ref a) _ H (R.freeze e h1 hv n0 ne (.dic upd_same rfl l (rs.mono s1))) s1 (.dic upd_same rfl l (rs.mono s1))
theorem me_cst {e : Expr} {v : V} {d : D} (h : PE X e (tC v)) (r : ∀ H, Rep X.K H v d) : PE X e (tM X.K W (dCst d)) := PE_imp h fun σ H Q ⟨G, δ, H0, R, q⟩ => PoE.val q R (r H0)
theorem ofO_some {K : PySem.W.Frag} {W : Wi} {G : Gh} {σ : L2.St} {H0 : Hp} {o : Option D} {δ : En} {Q : VK} (h : PoE K W G σ H0 (ofO o δ) Q) : ∃ z, o = some z ∧ PoE K W G σ H0 (.ok z δ) Q := by
  cases o with
  | none => exact h.elim
  | some z => exact ⟨z, rfl, h⟩
theorem me_bin {op : Operator} {g : D → D → Option D} {a b : Expr} {fa fb : Den} (ho : OpR X (binaryOp op) (rM X.K g)) (ha : PE X a (tM X.K W fa)) (hb : PE X b (tM X.K W fb)) : PE X (.BinOp a op b pos) (tM X.K W (dBin g fa fb)) :=
  PE_imp (pe_op ho ha hb) fun σ H Q ⟨G, δ, H0, R, h⟩ => ⟨G, δ, H0, R, PoE.bind h fun d δ1 v H01 H1 R1 s1 r1 h1 => ⟨G, δ1, H01, R1, PoE.bind h1 fun e δ2 w H02 H2 R2 s2 r2 h2 => by
    obtain ⟨z, hz, h3⟩ := ofO_some h2
    exact ⟨H02, d, e, z, R2.hs, r1.mono s2, r2, hz, fun u H03 H3 g r => h3.new R2 g r⟩⟩⟩
theorem me_cmp {op : CmpOp} {g : D → D → Option D} {a b : Expr} {fa fb : Den} (ho : OpR X (compareOp op) (rM X.K g)) (ha : PE X a (tM X.K W fa)) (hb : PE X b (tM X.K W fb)) (hm : behindInMarks op b = false) : PE X (.Compare a [op] [b] pos) (tM X.K W (dBin g fa fb)) :=
  PE_imp (pe_cmpR ho ha hb hm) fun σ H Q ⟨G, δ, H0, R, h⟩ => ⟨G, δ, H0, R, PoE.bind h fun d δ1 v H01 H1 R1 s1 r1 h1 => ⟨G, δ1, H01, R1, PoE.bind h1 fun e δ2 w H02 H2 R2 s2 r2 h2 => by
    obtain ⟨z, hz, h3⟩ := ofO_some h2
    exact ⟨H02, d, e, z, R2.hs, r1.mono s2, r2, hz, fun u H03 H3 g r => h3.new R2 g r⟩⟩⟩
theorem mt_cmp {op : CmpOp} {g : D → D → Option D} {a b : Expr} {fa fb : Den} (ho : OpR X (compareOp op) (rM X.K g)) (ha : PE X a (tM X.K W fa)) (hb : PE X b (tM X.K W fb)) (hm : behindInMarks op b = false) : PT X (.Compare a [op] [b] pos) (tT X.K W (dBin g fa fb)) :=
  PT_imp (pt_cmpR ho ha hb hm) fun σ H Q ⟨G, δ, H0, R, h⟩ => ⟨G, δ, H0, R, PoE.bind h.toE fun d δ1 v H01 H1 R1 s1 r1 h1 => ⟨G, δ1, H01, R1, PoE.bind h1 fun e δ2 w H02 H2 R2 s2 r2 h2 => by
    obtain ⟨z, hz, h3⟩ := ofO_some h2
    exact ⟨H02, d, e, z, R2.hs, r1.mono s2, r2, hz, fun u H03 H3 g r => h3.new R2 g r⟩⟩⟩
theorem me_ix {g : D → D → Option D} {a b : Expr} {fa fb : Den} (ho : IxR X (rM X.K g)) (ha : PE X a (tM X.K W fa)) (hb : PE X b (tM X.K W fb)) (hs : PlainIx b) : PE X (.Subscript a b pos) (tM X.K W (dBin g fa fb)) :=
  PE_imp (pe_ix ho ha hb hs) fun σ H Q ⟨G, δ, H0, R, h⟩ => ⟨G, δ, H0, R, PoE.bind h fun d δ1 v H01 H1 R1 s1 r1 h1 => ⟨G, δ1, H01, R1, PoE.bind h1 fun e δ2 w H02 H2 R2 s2 r2 h2 => by
    obtain ⟨z, hz, h3⟩ := ofO_some h2
    exact ⟨H02, d, e, z, R2.hs, r1.mono s2, r2, hz, fun u H03 H3 g r => h3.new R2 g r⟩⟩⟩
theorem me_un {op : UnaryOp} {g : D → Option D} {a : Expr} {fa : Den} (ho : UnR X (unaryOp op) (rMu X.K g)) (ha : PE X a (tM X.K W fa)) : PE X (.UnaryOp op a pos) (tM X.K W (dUn g fa)) :=
  PE_imp (pe_un ho ha) fun σ H Q ⟨G, δ, H0, R, h⟩ => ⟨G, δ, H0, R, PoE.bind h fun d δ1 v H01 H1 R1 s1 r1 h1 => by
    obtain ⟨z, hz, h3⟩ := ofO_some h1
    exact ⟨H01, d, z, R1.hs, r1, hz, fun u H03 H3 g r => h3.new R1 g r⟩⟩
def negD : D → Option D
  | .int i => some (.int (-i))
  | _ => none
theorem un_negM : UnR X (unaryOp .USub) (rMu X.K negD) := UnR_imp un_neg fun x H Q ⟨H0, d, z, s, r, hz, q⟩ => by
  unfold negD at hz
  split at hz
  · cases hz; cases r; exact ⟨_, rfl, q _ H0 H (Gr.refl s) (.int _)⟩
  · cases hz
theorem notD_some {d z : D} (h : notD d = some z) : ∃ b, d = .bl b ∧ z = .bl (!b) := by
  unfold notD at h
  split at h
  · cases h; exact ⟨_, rfl, rfl⟩
  · cases h
theorem me_not {a : Expr} {fa : Den} (ha : PE X a (tM X.K W fa)) : PE X (.UnaryOp .Not a pos) (tM X.K W (dUn notD fa)) :=
  PE_imp (pe_not ha) fun σ H Q ⟨G, δ, H0, R, h⟩ => ⟨G, δ, H0, R, PoE.bind h fun d δ1 v H01 H1 R1 s1 r1 h1 => by
    obtain ⟨z, hz, h3⟩ := ofO_some h1
    obtain ⟨b, rfl, rfl⟩ := notD_some hz
    cases r1
    exact ⟨b, rfl, h3.val R1 (.bl _)⟩⟩
theorem mt_not {a : Expr} {fa : Den} (ha : PT X a (tT X.K W fa)) : PT X (.UnaryOp .Not a pos) (tT X.K W (dUn notD fa)) :=
  PT_imp (pt_not ha) fun σ H Q ⟨G, δ, H0, R, h⟩ => ⟨G, δ, H0, R, by
    unfold dUn at h
    cases e : fa δ with
    | ok d δ1 =>
      rw [e] at h
      obtain ⟨z, hz, h⟩ : ∃ z, notD d = some z ∧ PoT X.K W G σ H0 (.ok z δ1) Q := by
        have h : PoT X.K W G σ H0 (ofO (notD d) δ1) Q := h
        cases hz : notD d with
        | none => rw [hz] at h; exact h.elim
        | some z => rw [hz] at h; exact ⟨z, rfl, h⟩
      obtain ⟨b, rfl, rfl⟩ := notD_some hz
      obtain ⟨b', e2, h⟩ := h
      cases e2
      exact ⟨b, rfl, h⟩
    | rz c δ1 => rw [e] at h; exact h
    | bad => rw [e] at h; exact h⟩
/-- a value as a test -/
theorem mt_val {a : Expr} {fa : Den} (ha : PE X a (tM X.K W fa)) (he : ∀ whole, isTrue a X.env whole = (do let v ← whole; standAt a.pos; holding [v] (truthy v))) : PT X a (tT X.K W fa) :=
  PT_imp (pt_val ha he) fun σ H Q ⟨G, δ, H0, R, h⟩ => ⟨G, δ, H0, R, h.toE⟩
/-- and, or: the list of the values -/
def dAnds : List Den → Den
  | [] => fun _ => .bad
  | [f] => f
  | f :: g :: fs => dAnd f (dAnds (g :: fs))
def dOrs : List Den → Den
  | [] => fun _ => .bad
  | [f] => f
  | f :: g :: fs => dOr f (dOrs (g :: fs))
theorem bindT_E {r : RE} {k : Bool → En → RE} {K : PySem.W.Frag} {G : Gh} {σ : L2.St} {H0 : Hp} {Q Q' : VK} (h : PoE K W G σ H0 (bindT r k) Q)
    (hk : ∀ b δ H1 H', Rl K G δ σ H1 H' → Same H0 H1 → PoE K W G σ H1 (k b δ) Q → Q' (.bl b) H') : PoE K W G σ H0 r Q' := by
  have h' := PoT.bind (Q' := fun b H' => Q' (.bl b) H') h hk
  cases r with
  | ok d δ =>
    obtain ⟨b, rfl, q⟩ := h'
    exact fun v H1 H' R s p => by
      cases p
      exact q H1 H' R s
  | rz c δ => exact h'
  | bad => exact h'
theorem ite_b {b : Bool} {α : Type} {x y : α} {P : α → Prop} (h : P (if b then x else y)) : if b = true then P x else P y := by
  cases b <;> exact h
theorem me_and {a b : Expr} {rest : List Expr} {fa fb : Den} (ha : PE X a (tM X.K W fa)) (hb : PE X (.BoolOp .And (b :: rest) pos) (tM X.K W fb)) : PE X (.BoolOp .And (a :: b :: rest) pos) (tM X.K W (dAnd fa fb)) :=
  PE_imp (pe_and ha hb) fun σ H Q ⟨G, δ, H0, R, h⟩ => ⟨G, δ, H0, R, bindT_E h fun c δ1 H1 H' R1 s1 h1 => ⟨c, rfl, by
    cases c with
    | true => exact ⟨G, δ1, H1, R1, h1⟩
    | false => exact PoE.val h1 R1 (.bl _)⟩⟩
theorem me_or {a b : Expr} {rest : List Expr} {fa fb : Den} (ha : PE X a (tM X.K W fa)) (hb : PE X (.BoolOp .Or (b :: rest) pos) (tM X.K W fb)) : PE X (.BoolOp .Or (a :: b :: rest) pos) (tM X.K W (dOr fa fb)) :=
  PE_imp (pe_or ha hb) fun σ H Q ⟨G, δ, H0, R, h⟩ => ⟨G, δ, H0, R, bindT_E h fun c δ1 H1 H' R1 s1 h1 => ⟨c, rfl, by
    cases c with
    | true => exact PoE.val h1 R1 (.bl _)
    | false => exact ⟨G, δ1, H1, R1, h1⟩⟩⟩
theorem PoT.okb {K : PySem.W.Frag} {G : Gh} {σ : L2.St} {H0 H : Hp} {b : Bool} {δ : En} {Q : Bool → Hp → Prop} (h : PoT K W G σ H0 (.ok (.bl b) δ) Q) (R : Rl K G δ σ H0 H) : Q b H := by
  obtain ⟨b', e, q⟩ := h
  cases e
  exact q H0 H R (Same.refl _)
theorem PW_imp {e : Expr} {t t' : TT} (h : PW X e t) (i : ∀ σ H Q, t' σ H Q → t σ H Q) : PW X e t' := ⟨fun w pins s σ H Q I q => h.run w pins s σ H Q I (i σ H Q q)⟩
theorem mw_and {a b : Expr} {rest : List Expr} {fa fb : Den} (ha : PT X a (tT X.K W fa)) (hb : PW X (.BoolOp .And (b :: rest) pos) (tT X.K W fb)) : PW X (.BoolOp .And (a :: b :: rest) pos) (tT X.K W (dAnd fa fb)) :=
  PW_imp (pw_and ha hb) fun σ H Q ⟨G, δ, H0, R, h⟩ => ⟨G, δ, H0, R, PoT.bindQ h fun c δ1 H1 H' R1 s1 h1 => by
    cases c with
    | true => exact ⟨G, δ1, H1, R1, h1⟩
    | false => exact PoT.okb h1 R1⟩
theorem mw_or {a b : Expr} {rest : List Expr} {fa fb : Den} (ha : PT X a (tT X.K W fa)) (hb : PW X (.BoolOp .Or (b :: rest) pos) (tT X.K W fb)) : PW X (.BoolOp .Or (a :: b :: rest) pos) (tT X.K W (dOr fa fb)) :=
  PW_imp (pw_or ha hb) fun σ H Q ⟨G, δ, H0, R, h⟩ => ⟨G, δ, H0, R, PoT.bindQ h fun c δ1 H1 H' R1 s1 h1 => by
    cases c with
    | true => exact PoT.okb h1 R1
    | false => exact ⟨G, δ1, H1, R1, h1⟩⟩
theorem me_ite {c a b : Expr} {fc fa fb : Den} (hc : PT X c (tT X.K W fc)) (ha : PE X a (tM X.K W fa)) (hb : PE X b (tM X.K W fb)) : PE X (.IfExp c a b pos) (tM X.K W (dIte fc fa fb)) :=
  PE_imp (pe_ifExp hc ha hb) fun σ H Q ⟨G, δ, H0, R, h⟩ => ⟨G, δ, H0, R, PoT.bind h fun c δ1 H1 H' R1 s1 h1 => by
    cases c with
    | true => exact ⟨G, δ1, H1, R1, h1⟩
    | false => exact ⟨G, δ1, H1, R1, h1⟩⟩
/-! ### arguments, displays, calls -/
theorem ma_nil : PA X [] (tA X.K W (dArgs [])) := PA_imp pa_nil fun σ H Q ⟨G, δ, H0, R, h⟩ => h [] H0 H R (Same.refl _) .nil
theorem ma_cons {e : Expr} {es : List Expr} {f : Den} {fs : List Den} (ha : PE X e (tM X.K W f)) (hr : PA X es (tA X.K W (dArgs fs))) (hs : starEach (e :: es) X.env = (false, eval e X.env) :: starEach es X.env) : PA X (e :: es) (tA X.K W (dArgs (f :: fs))) :=
  PA_imp (pa_cons ha hr hs) fun σ H Q ⟨G, δ, H0, R, h⟩ => ⟨G, δ, H0, R, PoE.consA h fun d δ1 v H1 H' R1 s1 r1 h1 => ⟨G, δ1, H1, R1, PoA.bindAA h1 fun ds δ2 vs H2 H'' R2 s2 r2 h2 =>
    h2 (v :: vs) H2 H'' R2 (Same.refl _) (.cons (r1.mono s2) r2)⟩⟩
theorem sz_le {n : Nat} (h : n ≤ 1000000) : n ≤ sizeLine := Nat.le_trans h (by decide)
theorem me_tup {es : List Expr} {k : Nat} {fs : List Den} (h : PA X es (tA X.K W (dArgs fs))) : PE X (.Tuple es k pos) (tM X.K W (dTup fs)) :=
  PE_imp (pe_tup h) fun σ H Q ⟨G, δ, H0, R, q⟩ => ⟨G, δ, H0, R, PoA.bind q fun ds δ1 vs H1 H' R1 s1 r1 h1 => by
    split at h1
    · rename_i c
      refine ⟨sz_le (by rw [r1.length]; exact c), fun p hp => ?_⟩
      have g := Gr.new (o := .tup vs) R1.hs hp
      exact PoE.new h1 R1 g (.tup (.inl (.inl upd_same)) (r1.mono g.h0))
    · exact h1.elim⟩
/-- a new list -/
inductive RF where
  | ok (o : O) (δ : En) | rz (c : Exc) (δ : En) | bad
abbrev FDen := En → RF
def PoF (K : PySem.W.Frag) (W : Wi) (G : Gh) (σ : L2.St) (H0 : Hp) (r : RF) (Q : VK) : Prop :=
  match r with
  | .ok o δ => ∀ a H0' H', Rl K G δ σ H0' H' → Same H0 H0' → H0' a = none → G.He a = none → OwnAt K H0' H' a o → (∀ (j : Nat) (s : Sl), δ[j]? = some s → isOwn s = true → σ[j]? ≠ some (some (V.ref a))) → Q (.ref a) H'
  | .rz c δ => ∀ cls dd H0' H', Rl K G δ σ H0' H' → Same H0 H0' → ExIs K W.ct c cls dd H' → W.w cls dd σ H'
  | .bad => False
def tF (K : PySem.W.Frag) (W : Wi) (f : FDen) : TE := fun σ H Q => ∃ G δ H0, Rl K G δ σ H0 H ∧ PoF K W G σ H0 (f δ) Q
def dFr (f : FDen) : Den := fun δ => match f δ with
  | .ok o δ => .ok (ownD o) δ
  | .rz c δ => .rz c δ
  | .bad => .bad
/-- what is new may be read -/
theorem Rl.take_in {K : PySem.W.Frag} {G : Gh} {δ : En} {σ : L2.St} {H0 H : Hp} {a : Addr} {u : HO} (R : Rl K G δ σ H0 H) (n0 : H0 a = none) (ne : G.He a = none) (hu : H a = some u)
    (nw : ∀ (j : Nat) (s : Sl), δ[j]? = some s → isOwn s = true → σ[j]? ≠ some (some (V.ref a))) : Rl K G δ σ (upd H0 a u) H := by
  have s1 : Same H0 (upd H0 a u) := fun b w e => by rw [upd_ne (ne_of_none e n0)]; exact e
  refine ⟨fun b w e => ?_, R.he, R.hf.trans s1, fun b e => ?_, R.len, fun j s x h1 h2 => ?_, R.dj, R.pn⟩
  · by_cases hb : b = a
    · subst hb; rw [upd_same] at e; cases e; exact hu
    · rw [upd_ne hb] at e; exact R.hs b w e
  · have hb : b ≠ a := fun z => e (by rw [z]; exact ne)
    rw [upd_ne hb]; exact R.hn b e
  · have q := R.sl j s x h1 h2
    have nea : ∀ c, isOwn s = true → x = some (.ref c) → c ≠ a := fun c ho hx z => by
      subst hx z
      exact nw j s h1 ho h2
    cases s with
    | no => trivial
    | va d => obtain ⟨v, e, r⟩ := q; exact ⟨v, e, r.mono s1⟩
    | ow o => obtain ⟨c, e, n, f, w⟩ := q; exact ⟨c, e, by rw [upd_ne (nea c rfl e)]; exact n, f, w.mono s1 rfl⟩
    | pi o => obtain ⟨c, e, n, f, w, p⟩ := q; exact ⟨c, e, by rw [upd_ne (nea c rfl e)]; exact n, f, w.mono s1 rfl, p⟩
/-- a new object of one's own, read from now on -/
theorem read_in {K : PySem.W.Frag} {W : Wi} {G : Gh} {δ : En} {σ : L2.St} {H0 H1 H' : Hp} {a : Addr} {o : O} {Q : VK} (q : PoE K W G σ H0 (.ok (ownD o) δ) Q) (R1 : Rl K G δ σ H1 H') (s1 : Same H0 H1) (n0 : H1 a = none) (ne : G.He a = none) (w : OwnAt K H1 H' a o)
    (nw : ∀ (j : Nat) (s : Sl), δ[j]? = some s → isOwn s = true → σ[j]? ≠ some (some (V.ref a))) : Q (.ref a) H' := by
  cases o with
  | lst ds =>
    obtain ⟨vs, hv, rs⟩ := w
    have s2 : Same H1 (upd H1 a (.lst vs)) := fun b u e => by rw [upd_ne (ne_of_none e n0)]; exact e
    exact q (.ref a) _ H' (R1.take_in n0 ne hv nw) (s1.trans s2) (.lst (.inl (.inl upd_same)) (rs.mono s2))
  | dic ks ds =>
    obtain ⟨vs, hv, l, rs⟩ := w
    have s2 : Same H1 (upd H1 a (.dK (ks.zip vs))) := fun b u e => by rw [upd_ne (ne_of_none e n0)]; exact e
    exact q (.ref a) _ H' (R1.take_in n0 ne hv nw) (s1.trans s2) (.dic upd_same rfl l (rs.mono s2))
theorem fr_read {K : PySem.W.Frag} {f : FDen} {σ : L2.St} {H : Hp} {Q : VK} (h : tM K W (dFr f) σ H Q) : tF K W f σ H Q := by
  obtain ⟨G, δ, H0, R, q⟩ := h
  refine ⟨G, δ, H0, R, ?_⟩
  unfold dFr at q
  cases e : f δ with
  | bad => rw [e] at q; exact q
  | rz c δ1 => rw [e] at q; exact q
  | ok o δ1 =>
    rw [e] at q
    intro a H1 H' R1 s1 n0 ne w nw
    cases o with
    | lst ds =>
      obtain ⟨vs, hv, rs⟩ := w
      have s2 : Same H1 (upd H1 a (.lst vs)) := fun b u e => by rw [upd_ne (ne_of_none e n0)]; exact e
      exact q (.ref a) _ H' (R1.take_in n0 ne hv nw) (s1.trans s2) (.lst (.inl (.inl upd_same)) (rs.mono s2))
    | dic ks ds =>
      obtain ⟨vs, hv, l, rs⟩ := w
      have s2 : Same H1 (upd H1 a (.dK (ks.zip vs))) := fun b u e => by rw [upd_ne (ne_of_none e n0)]; exact e
      exact q (.ref a) _ H' (R1.take_in n0 ne hv nw) (s1.trans s2) (.dic upd_same rfl l (rs.mono s2))
theorem me_fr {e : Expr} {f : FDen} (h : PE X e (tF X.K W f)) : PE X e (tM X.K W (dFr f)) := PE_imp h fun σ H Q q => fr_read q
theorem Rl.he_none {K : PySem.W.Frag} {G : Gh} {δ : En} {σ : L2.St} {H0 H : Hp} {a : Addr} (R : Rl K G δ σ H0 H) (n : H a = none) : G.He a = none := R.he.free n
theorem Rl.own_ne {K : PySem.W.Frag} {G : Gh} {δ : En} {σ : L2.St} {H0 H : Hp} {a : Addr} (R : Rl K G δ σ H0 H) (n : H a = none) (j : Nat) (s : Sl) (h : δ[j]? = some s) (o : isOwn s = true) : σ[j]? ≠ some (some (V.ref a)) := fun e => by
  have q := R.sl j s _ h e
  cases s with
  | no => cases o
  | va d => cases o
  | ow o => obtain ⟨c, e, _, _, w⟩ := q; cases e; exact w.some_ n
  | pi o => obtain ⟨c, e, _, _, w, _⟩ := q; cases e; exact w.some_ n
/-- a new object laid, not read yet -/
theorem Gr.lay {H0 H : Hp} {p : Addr} {o : HO} (s : Same H0 H) (n : H p = none) : Gr H0 H H0 (upd H p o) := by
  have n0 : H0 p = none := s.free n
  exact ⟨fun b u e => by rw [upd_ne (ne_of_none e n)]; exact e, Same.refl _, fun b u e => by rw [upd_ne (ne_of_none e n0)]; exact s b u e, fun _ _ => rfl⟩
theorem PoF.laid {K : PySem.W.Frag} {G : Gh} {δ : En} {σ : L2.St} {H0 H : Hp} {o : O} {p : Addr} {u : HO} {Q : VK} (h : PoF K W G σ H0 (.ok o δ) Q) (R : Rl K G δ σ H0 H) (n : H p = none) (w : OwnAt K H0 (upd H p u) p o) : Q (.ref p) (upd H p u) :=
  h p H0 _ (R.grow (Gr.lay R.hs n)) (Same.refl _) (R.hs.free n) (R.he_none n) w (R.own_ne n)
def bindAF (r : RA) (k : List D → En → RF) : RF :=
  match r with
  | .ok d δ => k d δ
  | .rz c δ => .rz c δ
  | .bad => .bad
def bindEF (r : RE) (k : D → En → RF) : RF :=
  match r with
  | .ok d δ => k d δ
  | .rz c δ => .rz c δ
  | .bad => .bad
theorem PoF.up {K : PySem.W.Frag} {G : Gh} {σ : L2.St} {H0 H0' : Hp} {r : RF} {Q : VK} (h : PoF K W G σ H0 r Q) (s : Same H0 H0') : PoF K W G σ H0' r Q := by
  cases r with
  | ok d δ => exact fun v H0'' H' R s' => h v H0'' H' R (s.trans s')
  | rz c δ => exact fun cls dd H0'' H' R s' => h cls dd H0'' H' R (s.trans s')
  | bad => exact h
theorem PoA.bindF {K : PySem.W.Frag} {G : Gh} {σ : L2.St} {H0 : Hp} {Q : VK} {r : RA} {Q' : List V → Hp → Prop} {k : List D → En → RF} (h : PoF K W G σ H0 (bindAF r k) Q)
    (hk : ∀ d δ v H1 H', Rl K G δ σ H1 H' → Same H0 H1 → Reps K H1 v d → PoF K W G σ H1 (k d δ) Q → Q' v H') : PoA K W G σ H0 r Q' := by
  cases r with
  | ok d δ => exact fun v H1 H' R s p => hk d δ v H1 H' R s p (h.up s)
  | rz c δ => exact h
  | bad => exact h
theorem PoE.bindF {K : PySem.W.Frag} {G : Gh} {σ : L2.St} {H0 : Hp} {Q : VK} {r : RE} {Q' : VK} {k : D → En → RF} (h : PoF K W G σ H0 (bindEF r k) Q)
    (hk : ∀ d δ v H1 H', Rl K G δ σ H1 H' → Same H0 H1 → Rep K H1 v d → PoF K W G σ H1 (k d δ) Q → Q' v H') : PoE K W G σ H0 r Q' := by
  cases r with
  | ok d δ => exact fun v H1 H' R s p => hk d δ v H1 H' R s p (h.up s)
  | rz c δ => exact h
  | bad => exact h
def fLst (fs : List Den) : FDen := fun δ => bindAF (dArgs fs δ) fun ds δ1 => if ds.length ≤ 1000000 then .ok (.lst ds) δ1 else .bad
theorem mf_lst {es : List Expr} {fs : List Den} (h : PA X es (tA X.K W (dArgs fs))) : PE X (.List es pos) (tF X.K W (fLst fs)) :=
  PE_imp (pe_lst h) fun σ H Q ⟨G, δ, H0, R, q⟩ => ⟨G, δ, H0, R, PoA.bindF q fun ds δ1 vs H1 H' R1 s1 r1 h1 => by
    split at h1
    · rename_i c
      exact ⟨sz_le (by rw [r1.length]; exact c), fun p hp => h1.laid R1 hp ⟨vs, upd_same, r1⟩⟩
    · exact h1.elim⟩
/-- f(e, ..), by what it gives of the values -/
theorem me_bi {id : String} {x : Str} {p : Pos} {e : Expr} {es : List Expr} {g : List D → Option D} {fs : List Den} (hc : CallR X (.builtin id) (rMl X.K g)) (hg : Gl X x) (hm : X.mg x = none) (hv : bootBuiltins x = some (.builtin id)) (ha : PA X (e :: es) (tA X.K W (dArgs fs))) (hn : x ≠ "__name__") (hdb : (x == ("__debug__" : Str)) = false)
    (he : starEach (e :: es) X.env = (false, eval e X.env) :: starEach es X.env) (hpl : (backTo pos (starEach es X.env)).any (·.1) = false) : PE X (.Call (.Name x p) (e :: es) [] pos) (tM X.K W (dBi g fs)) :=
  PE_imp (pe_callB hc hg hm hv ha hn hdb he hpl) fun σ H Q ⟨G, δ, H0, R, q⟩ => ⟨G, δ, H0, R, PoA.bind q fun ds δ1 vs H1 H' R1 s1 r1 h1 => by
    obtain ⟨z, hz, h3⟩ := ofO_some h1
    exact ⟨H1, ds, z, R1.hs, r1, hz, fun u H03 H3 g r => h3.new R1 g r⟩⟩
theorem me_biT {T : String} {x : Str} {p : Pos} {e : Expr} {es : List Expr} {g : List D → Option D} {fs : List Den} (hc : CallR X (.type T) (rMl X.K g)) (hg : Gl X x) (hm : X.mg x = none) (hv : bootBuiltins x = some (.type T)) (ha : PA X (e :: es) (tA X.K W (dArgs fs))) (hn : x ≠ "__name__") (hdb : (x == ("__debug__" : Str)) = false)
    (he : starEach (e :: es) X.env = (false, eval e X.env) :: starEach es X.env) (hpl : (backTo pos (starEach es X.env)).any (·.1) = false) : PE X (.Call (.Name x p) (e :: es) [] pos) (tM X.K W (dBi g fs)) :=
  PE_imp (pe_callTy hc hg hm hv ha hn hdb he hpl) fun σ H Q ⟨G, δ, H0, R, q⟩ => ⟨G, δ, H0, R, PoA.bind q fun ds δ1 vs H1 H' R1 s1 r1 h1 => by
    obtain ⟨z, hz, h3⟩ := ofO_some h1
    exact ⟨H1, ds, z, R1.hs, r1, hz, fun u H03 H3 g r => h3.new R1 g r⟩⟩
/-- what a def promises: it gives what g says of its arguments -/
def spD (K : PySem.W.Frag) (ct : Nat → Addr) (n : Nat) (g : List D → RD) : Sp := fun vs H Q E => ∃ H0 ds, Same H0 H ∧ Reps K H0 vs ds ∧ ds.length = n ∧
  match g ds with
  | .ok d => ∀ v H1 H', Gr H0 H H1 H' → Rep K H1 v d → Q v H'
  | .ow o => ∀ a H1 H', Gr H0 H H1 H' → H a = none → H1 a = none → OwnAt K H1 H' a o → Q (.ref a) H'
  | .rz c => ∀ cls dd H1 H', Gr H0 H H1 H' → ExIs K ct c cls dd H' → E cls dd H'
  | _ => False
theorem me_call {CX : CXT} {k : Nat} {f : Addr} {fd : FuncData} {ps : List Str} {n : Nat} {ct : Nat → Addr} {x : Str} {p : Pos} {e : Expr} {es : List Expr} {g : List D → RD} {fs : List Den}
    (F : FnOk X.prog X.w X.K X.mg X.base CX k f fd ps (spD X.K ct n g)) (hr : Room k X.A) (hg : Gl X x) (hm : X.mg x = some (.ref f)) (hk : PySem.W.keepIn X.K (.ref f) = true) (hb : Binds X.K fd ps []) (hx : ∀ σ, PassesAt CX X σ (WE W.w σ)) (hdb : (x == ("__debug__" : Str)) = false)
    (ha : PA X (e :: es) (tA X.K W (dArgs fs))) (hl : fs.length = n) (hct : W.ct = ct)
    (he : starEach (e :: es) X.env = (false, eval e X.env) :: starEach es X.env) (hpl : (backTo pos (starEach es X.env)).any (·.1) = false) : PE X (.Call (.Name x p) (e :: es) [] pos) (tM X.K W (dCall g fs)) := by
  have lenA : ∀ (fs : List Den) (δ : En) (ds : List D) (δ1 : En), dArgs fs δ = .ok ds δ1 → ds.length = fs.length := by
    intro fs
    induction fs with
    | nil => intro δ ds δ1 h; cases h; rfl
    | cons f fs ih =>
      intro δ ds δ1 h
      unfold dArgs at h
      cases e : f δ with
      | ok d δ2 =>
        rw [e] at h
        unfold consA at h
        cases e2 : dArgs fs δ2 with
        | ok ds2 δ3 =>
          have h : bindAA (dArgs fs δ2) (fun ds δ2 => RA.ok (d :: ds) δ2) = .ok ds δ1 := h
          rw [e2] at h
          have h : RA.ok (d :: ds2) δ3 = .ok ds δ1 := h
          cases h
          rw [List.length_cons, List.length_cons, ih _ _ _ e2]
        | rz c δ3 =>
          have h : bindAA (dArgs fs δ2) (fun ds δ2 => RA.ok (d :: ds) δ2) = .ok ds δ1 := h
          rw [e2] at h; cases h
        | bad =>
          have h : bindAA (dArgs fs δ2) (fun ds δ2 => RA.ok (d :: ds) δ2) = .ok ds δ1 := h
          rw [e2] at h; cases h
      | rz c δ2 => rw [e] at h; cases h
      | bad => rw [e] at h; cases h
  refine PE_imp (pe_callS F hr hg hm hk hb hx ha hdb he hpl) fun σ H Q ⟨G, δ, H0, R, q⟩ => ⟨G, δ, H0, R, ?_⟩
  unfold dCall at q
  cases eA : dArgs fs δ with
  | bad => rw [eA] at q; exact q
  | rz c δ1 => rw [eA] at q; exact q
  | ok ds δ1 =>
    rw [eA] at q
    intro vs H1 H' R1 s1 r1
    refine ⟨H1, ds, R1.hs, r1, by rw [lenA _ _ _ _ eA, hl], ?_⟩
    have q : PoE X.K W G σ H0 (ofD (g ds) δ1) Q := q
    cases hg : g ds with
    | ok d => rw [hg] at q; exact fun v H2 H'' gr r => q v H2 H'' (R1.grow gr) (s1.trans gr.h0) r
    | ow o =>
      rw [hg] at q
      exact fun a H2 H'' gr n n0 ow => read_in q (R1.grow gr) (s1.trans gr.h0) n0 (R1.he_none n) ow (R1.own_ne n)
    | okp d o => rw [hg] at q; exact q.elim
    | owp d o => rw [hg] at q; exact q.elim
    | rz c => rw [hg] at q; exact fun cls dd H2 H'' gr x => q cls dd H2 H'' (R1.grow gr) (s1.trans gr.h0) (by rw [hct]; exact x)
    | bad => rw [hg] at q; exact q.elim
end
end Z

namespace Z
open PySem PySem.Spec PyProof.Rows L2

/-! ### built-in functions on data -/
def absL : List D → Option D
  | [.int i] => some (.int (if i < 0 then -i else i))
  | _ => none
def intsOf : List D → Option (List Int)
  | [] => some []
  | .int i :: ds => (intsOf ds).map (i :: ·)
  | _ => none
/-- the greatest, the least of some whole numbers -/
def topI : List Int → Option Int
  | [] => none
  | x :: xs => match topI xs with
    | none => some x
    | some m => some (if m > x then m else x)
def lowI : List Int → Option Int
  | [] => none
  | x :: xs => match lowI xs with
    | none => some x
    | some m => some (if m < x then m else x)
theorem topI_ok : ∀ {ns : List Int} {m : Int}, topI ns = some m → m ∈ ns ∧ ∀ y ∈ ns, y ≤ m
  | [], m, h => by cases h
  | x :: xs, m, h => by
    unfold topI at h
    cases e : topI xs with
    | none =>
      rw [e] at h
      cases h
      cases xs with
      | nil => exact ⟨List.mem_cons_self, fun y hy => by rw [List.mem_singleton.mp hy]; exact Int.le_refl _⟩
      | cons a as => unfold topI at e; split at e <;> cases e
    | some k =>
      rw [e] at h
      obtain ⟨h1, h2⟩ := topI_ok e
      have h : (if k > x then k else x) = m := Option.some.inj h
      by_cases c : k > x
      · rw [if_pos c] at h
        subst h
        exact ⟨List.mem_cons_of_mem _ h1, fun y hy => (List.mem_cons.mp hy).elim (fun e => by omega) (h2 y)⟩
      · rw [if_neg c] at h
        subst h
        exact ⟨List.mem_cons_self, fun y hy => (List.mem_cons.mp hy).elim (fun e => by omega) fun hy => by have := h2 y hy; omega⟩
theorem lowI_ok : ∀ {ns : List Int} {m : Int}, lowI ns = some m → m ∈ ns ∧ ∀ y ∈ ns, m ≤ y
  | [], m, h => by cases h
  | x :: xs, m, h => by
    unfold lowI at h
    cases e : lowI xs with
    | none =>
      rw [e] at h
      cases h
      cases xs with
      | nil => exact ⟨List.mem_cons_self, fun y hy => by rw [List.mem_singleton.mp hy]; exact Int.le_refl _⟩
      | cons a as => unfold lowI at e; split at e <;> cases e
    | some k =>
      rw [e] at h
      obtain ⟨h1, h2⟩ := lowI_ok e
      have h : (if k < x then k else x) = m := Option.some.inj h
      by_cases c : k < x
      · rw [if_pos c] at h
        subst h
        exact ⟨List.mem_cons_of_mem _ h1, fun y hy => (List.mem_cons.mp hy).elim (fun e => by omega) (h2 y)⟩
      · rw [if_neg c] at h
        subst h
        exact ⟨List.mem_cons_self, fun y hy => (List.mem_cons.mp hy).elim (fun e => by omega) fun hy => by have := h2 y hy; omega⟩
theorem topI_some : ∀ {ns : List Int}, ns ≠ [] → ∃ m, topI ns = some m
  | [], h => absurd rfl h
  | x :: xs, _ => by
    unfold topI
    split
    · exact ⟨_, rfl⟩
    · exact ⟨_, rfl⟩
theorem lowI_some : ∀ {ns : List Int}, ns ≠ [] → ∃ m, lowI ns = some m
  | [], h => absurd rfl h
  | x :: xs, _ => by
    unfold lowI
    split
    · exact ⟨_, rfl⟩
    · exact ⟨_, rfl⟩
theorem intsOf_map : ∀ ns : List Int, intsOf (ns.map D.int) = some ns
  | [] => rfl
  | x :: xs => by rw [List.map_cons, intsOf, intsOf_map xs]; rfl
def maxL : List D → Option D
  | [.int i, .int j] => some (.int (if j > i then j else i))
  | [.lst ds] => ((intsOf ds).bind topI).map .int
  | _ => none
def minL : List D → Option D
  | [.int i, .int j] => some (.int (if j < i then j else i))
  | [.lst ds] => ((intsOf ds).bind lowI).map .int
  | _ => none
theorem max_ex {ns : List Int} (h : ns ≠ []) : ∃ m, maxL [.lst (ns.map D.int)] = some (.int m) ∧ m ∈ ns ∧ ∀ y ∈ ns, y ≤ m := by
  obtain ⟨m, e⟩ := topI_some h
  refine ⟨m, ?_, topI_ok e⟩
  show ((intsOf (ns.map D.int)).bind topI).map D.int = _
  rw [intsOf_map]
  show (topI ns).map D.int = _
  rw [e]
  rfl
theorem min_ex {ns : List Int} (h : ns ≠ []) : ∃ m, minL [.lst (ns.map D.int)] = some (.int m) ∧ m ∈ ns ∧ ∀ y ∈ ns, m ≤ y := by
  obtain ⟨m, e⟩ := lowI_some h
  refine ⟨m, ?_, lowI_ok e⟩
  show ((intsOf (ns.map D.int)).bind lowI).map D.int = _
  rw [intsOf_map]
  show (lowI ns).map D.int = _
  rw [e]
  rfl
def lenL : List D → Option D
  | [.tup ds] => some (.int ds.length)
  | [.lst ds] => some (.int ds.length)
  | [.str x] => if x.length ≤ sizeLine then some (.int x.length) else none
  | _ => none
def tupL : List D → Option D
  | [.lst ds] => some (.tup ds)
  | [.tup ds] => some (.tup ds)
  | _ => none
def intL : List D → Option D
  | [.int i] => some (.int i)
  | [.bl k] => some (.int (if k then 1 else 0))
  | _ => none
def blsOf : List D → Option (List Bool)
  | [] => some []
  | .bl i :: ds => (blsOf ds).map (i :: ·)
  | _ => none
def sumL : List D → Option D
  | [.lst ds] => (intsOf ds).map fun ns => .int ns.sum
  | _ => none
def allL : List D → Option D
  | [.lst ds] => (blsOf ds).map fun ns => .bl (ns.all id)
  | _ => none
def anyL : List D → Option D
  | [.lst ds] => (blsOf ds).map fun ns => .bl (ns.any id)
  | _ => none
def isExc : D → Bool
  | .exc _ => true
  | _ => false
def isiD (ty : String) (d : D) : Option D := if isExc d then none else (kitB (tyD d) ty).map .bl
inductive Bi where
  | abs | max | min | len | tup | int | sum | all | any
def Bi.fn : Bi → List D → Option D
  | .abs => absL
  | .max => maxL
  | .min => minL
  | .len => lenL
  | .tup => tupL
  | .int => intL
  | .sum => sumL
  | .all => allL
  | .any => anyL
def Bi.name : Bi → Str
  | .abs => "abs"
  | .max => "max"
  | .min => "min"
  | .len => "len"
  | .tup => "tuple"
  | .int => "int"
  | .sum => "sum"
  | .all => "all"
  | .any => "any"
def Bi.val : Bi → Value
  | .abs => .builtin "abs"
  | .max => .builtin "max"
  | .min => .builtin "min"
  | .len => .builtin "len"
  | .tup => .type "tuple"
  | .int => .type "int"
  | .sum => .builtin "sum"
  | .all => .builtin "all"
  | .any => .builtin "any"
theorem Bi.boot (b : Bi) : bootBuiltins b.name = some b.val := by cases b <;> decide +kernel
theorem Bi.nn (b : Bi) : b.name ≠ "__name__" := by cases b <;> decide +kernel
theorem Bi.nd (b : Bi) : (b.name == ("__debug__" : Str)) = false := by cases b <;> decide +kernel
theorem reps1 {K : PySem.W.Frag} {H : Hp} {vs : List V} {d : D} (r : Reps K H vs [d]) : ∃ v, vs = [v] ∧ Rep K H v d := by
  cases r with
  | cons h t => cases t; exact ⟨_, rfl, h⟩
theorem reps2 {K : PySem.W.Frag} {H : Hp} {vs : List V} {d e : D} (r : Reps K H vs [d, e]) : ∃ v w, vs = [v, w] ∧ Rep K H v d ∧ Rep K H w e := by
  cases r with
  | cons h t =>
    cases t with
    | cons h2 t2 => cases t2; exact ⟨_, _, rfl, h, h2⟩
theorem reps_ints {K : PySem.W.Frag} {H : Hp} : ∀ {vs : List V} {ds : List D} {ns : List Int}, Reps K H vs ds → intsOf ds = some ns → vs = ns.map V.int
  | _, _, _, .nil, h => by cases h; rfl
  | _, _, _, .cons (d := d) (ds := ds) r t, h => by
    cases d with
    | int i =>
      unfold intsOf at h
      cases e : intsOf ds with
      | none => rw [e] at h; cases h
      | some ns =>
        rw [e] at h
        cases h
        cases r
        rw [reps_ints t e]
        rfl
    | _ => cases h
theorem reps_bls {K : PySem.W.Frag} {H : Hp} : ∀ {vs : List V} {ds : List D} {ns : List Bool}, Reps K H vs ds → blsOf ds = some ns → vs = ns.map V.bl
  | _, _, _, .nil, h => by cases h; rfl
  | _, _, _, .cons (d := d) (ds := ds) r t, h => by
    cases d with
    | bl i =>
      unfold blsOf at h
      cases e : blsOf ds with
      | none => rw [e] at h; cases h
      | some ns =>
        rw [e] at h
        cases h
        cases r
        rw [reps_bls t e]
        rfl
    | _ => cases h
section
variable {X : Cx} {W : Wi} {pos : Pos}
theorem Bi.call (b : Bi) (hc : X.calm = true) : CallR X b.val (rMl X.K b.fn) := by
  cases b with
  | abs =>
    exact CallR_imp call_abs fun x H Q ⟨H0, ds, z, s, r, hz, q⟩ => by
      have hz : absL ds = some z := hz
      unfold absL at hz
      split at hz
      · cases hz
        obtain ⟨v, rfl, rv⟩ := reps1 r
        cases rv
        exact ⟨_, rfl, q _ H0 H (Gr.refl s) (.int _)⟩
      · cases hz
  | max =>
    intro pins s0 σ H xs us Q I rv h
    obtain ⟨H0, ds, z, s, r, hz, q⟩ := h
    have hz : maxL ds = some z := hz
    unfold maxL at hz
    split at hz
    · cases hz
      refine call_max2 hc pins s0 σ H xs us Q I rv ?_
      obtain ⟨v, w, rfl, rv, rw'⟩ := reps2 r
      cases rv
      cases rw'
      exact ⟨_, _, rfl, q _ H0 H (Gr.refl s) (.int _)⟩
    · rename_i es _
      cases e : intsOf es with
      | none => rw [e] at hz; cases hz
      | some ns =>
        rw [e] at hz
        have hz : (topI ns).map D.int = some z := hz
        cases e3 : topI ns with
        | none => rw [e3] at hz; cases hz
        | some m =>
          rw [e3] at hz
          cases hz
          obtain ⟨h1, h2⟩ := topI_ok e3
          refine cr_max hc pins s0 σ H xs us Q I rv ?_
          obtain ⟨v, rfl, rv9⟩ := reps1 r
          cases rv9 with
          | lst h rs =>
            have e2 := reps_ints rs e
            subst e2
            refine ⟨_, ns, rfl, s.seq h, List.length_pos_of_mem h1, fun k k1 k2 => ?_⟩
            have : k = m := by
              have a := h2 k k1
              have b := k2 m h1
              omega
            subst this
            exact q _ H0 H (Gr.refl s) (.int _)
    · cases hz
  | min =>
    intro pins s0 σ H xs us Q I rv h
    obtain ⟨H0, ds, z, s, r, hz, q⟩ := h
    have hz : minL ds = some z := hz
    unfold minL at hz
    split at hz
    · cases hz
      refine call_min2 hc pins s0 σ H xs us Q I rv ?_
      obtain ⟨v, w, rfl, rv, rw'⟩ := reps2 r
      cases rv
      cases rw'
      exact ⟨_, _, rfl, q _ H0 H (Gr.refl s) (.int _)⟩
    · rename_i es _
      cases e : intsOf es with
      | none => rw [e] at hz; cases hz
      | some ns =>
        rw [e] at hz
        have hz : (lowI ns).map D.int = some z := hz
        cases e3 : lowI ns with
        | none => rw [e3] at hz; cases hz
        | some m =>
          rw [e3] at hz
          cases hz
          obtain ⟨h1, h2⟩ := lowI_ok e3
          refine cr_min hc pins s0 σ H xs us Q I rv ?_
          obtain ⟨v, rfl, rv9⟩ := reps1 r
          cases rv9 with
          | lst h rs =>
            have e2 := reps_ints rs e
            subst e2
            refine ⟨_, ns, rfl, s.seq h, List.length_pos_of_mem h1, fun k k1 k2 => ?_⟩
            have : k = m := by
              have a := h2 k k1
              have b := k2 m h1
              omega
            subst this
            exact q _ H0 H (Gr.refl s) (.int _)
    · cases hz
  | len =>
    exact CallR_imp call_len fun x H Q ⟨H0, ds, z, s, r, hz, q⟩ => by
      have hz : lenL ds = some z := hz
      unfold lenL at hz
      split at hz
      · cases hz
        obtain ⟨v, rfl, rv⟩ := reps1 r
        cases rv with
        | tup h rs => exact ⟨_, _, rfl, .inr ⟨_, Same.seqT s h, rs.length.symm⟩, q _ H0 H (Gr.refl s) (.int _)⟩
      · cases hz
        obtain ⟨v, rfl, rv⟩ := reps1 r
        cases rv with
        | lst h rs => exact ⟨_, _, rfl, .inl ⟨_, s.seq h, rs.length.symm⟩, q _ H0 H (Gr.refl s) (.int _)⟩
      · split at hz
        · rename_i c
          cases hz
          obtain ⟨v, rfl, rv⟩ := reps1 r
          cases rv
          exact ⟨_, _, rfl, ⟨c, rfl⟩, q _ H0 H (Gr.refl s) (.int _)⟩
        · cases hz
      · cases hz
  | tup =>
    exact CallR_imp call_tuple_of fun x H Q ⟨H0, ds, z, s, r, hz, q⟩ => by
      have hz : tupL ds = some z := hz
      unfold tupL at hz
      split at hz
      · cases hz
        obtain ⟨v, rfl, rv⟩ := reps1 r
        cases rv with
        | lst h rs =>
          refine ⟨_, _, rfl, .inl ⟨s.seq h, fun l hl => ?_⟩⟩
          exact q _ _ _ (Gr.new s hl) (.tup (.inl (.inl upd_same)) (rs.mono (Gr.new s hl).h0))
      · cases hz
        obtain ⟨v, rfl, rv⟩ := reps1 r
        cases rv with
        | tup h rs => exact ⟨_, _, rfl, .inr ⟨Same.seqT s h, q _ H0 H (Gr.refl s) (.tup h rs)⟩⟩
      · cases hz
  | int =>
    exact CallR_imp call_int1 fun x H Q ⟨H0, ds, z, s, r, hz, q⟩ => by
      have hz : intL ds = some z := hz
      unfold intL at hz
      split at hz
      · cases hz
        obtain ⟨v, rfl, rv⟩ := reps1 r
        cases rv
        exact .inl ⟨_, rfl, q _ H0 H (Gr.refl s) (.int _)⟩
      · cases hz
        obtain ⟨v, rfl, rv⟩ := reps1 r
        cases rv
        exact .inr ⟨_, rfl, q _ H0 H (Gr.refl s) (.int _)⟩
      · cases hz
  | sum =>
    exact CallR_imp (cr_sum hc) fun x H Q ⟨H0, ds, z, s, r, hz, q⟩ => by
      have hz : sumL ds = some z := hz
      unfold sumL at hz
      split at hz
      · rename_i es _
        cases e : intsOf es with
        | none => rw [e] at hz; cases hz
        | some ns =>
          rw [e] at hz
          cases hz
          obtain ⟨v, rfl, rv⟩ := reps1 r
          cases rv with
          | lst h rs =>
            have e2 := reps_ints rs e
            subst e2
            exact ⟨_, ns, rfl, s.seq h, q _ H0 H (Gr.refl s) (.int _)⟩
      · cases hz
  | all =>
    exact CallR_imp (cr_all hc) fun x H Q ⟨H0, ds, z, s, r, hz, q⟩ => by
      have hz : allL ds = some z := hz
      unfold allL at hz
      split at hz
      · rename_i es _
        cases e : blsOf es with
        | none => rw [e] at hz; cases hz
        | some ns =>
          rw [e] at hz
          cases hz
          obtain ⟨v, rfl, rv⟩ := reps1 r
          cases rv with
          | lst h rs =>
            have e2 := reps_bls rs e
            subst e2
            exact ⟨_, ns, rfl, s.seq h, q _ H0 H (Gr.refl s) (.bl _)⟩
      · cases hz
  | any =>
    exact CallR_imp (cr_any hc) fun x H Q ⟨H0, ds, z, s, r, hz, q⟩ => by
      have hz : anyL ds = some z := hz
      unfold anyL at hz
      split at hz
      · rename_i es _
        cases e : blsOf es with
        | none => rw [e] at hz; cases hz
        | some ns =>
          rw [e] at hz
          cases hz
          obtain ⟨v, rfl, rv⟩ := reps1 r
          cases rv with
          | lst h rs =>
            have e2 := reps_bls rs e
            subst e2
            exact ⟨_, ns, rfl, s.seq h, q _ H0 H (Gr.refl s) (.bl _)⟩
      · cases hz
theorem me_Bi (b : Bi) {x : Str} {p : Pos} {e : Expr} {es : List Expr} {fs : List Den} (hc : X.calm = true) (hx : x = b.name) (hg : Gl X x) (hm : X.mg x = none) (ha : PA X (e :: es) (tA X.K W (dArgs fs)))
    (he : starEach (e :: es) X.env = (false, eval e X.env) :: starEach es X.env) (hpl : (backTo pos (starEach es X.env)).any (·.1) = false) : PE X (.Call (.Name x p) (e :: es) [] pos) (tM X.K W (dBi b.fn fs)) := by
  subst hx
  have h := b.call hc
  have hb := b.boot
  have n1 := b.nn
  have n2 := b.nd
  generalize ev : b.val = v at h hb
  cases b <;> (subst ev; first | exact me_bi h hg hm hb ha n1 n2 he hpl | exact me_biT h hg hm hb ha n1 n2 he hpl)
theorem Rep.tyx {K : PySem.W.Frag} {H0 H : Hp} {v : V} {d : D} (r : Rep K H0 v d) (s : Same H0 H) (ne : isExc d = false) : TyX K H v (.type (tyD d)) := by
  cases r with
  | non => exact .base .non
  | bl b => exact .base (.bl b)
  | int i => exact .base (.int i)
  | str x => exact .base (.str x)
  | tup h _ =>
    rcases h with (h | ⟨o, h⟩) | ⟨o, its, n, h, c, _⟩
    · exact .base (.tup (s _ _ h))
    · exact .fTuple (s _ _ h)
    · exact .kTuple h c
  | lst h _ =>
    rcases h with (h | ⟨o, h⟩) | ⟨o, its, n, h, c, _⟩
    · exact .base (.lst (s _ _ h))
    · exact .base (.frz (s _ _ h))
    · exact .kList h c
  | dic h _ _ _ => exact .base (.dK (s _ _ h))
  | exc h _ => cases ne
/-- isinstance(e, T), T a built-in class -/
theorem me_isi {ty : String} {tyn : Str} {p p2 : Pos} {e : Expr} {f : Den} (ha : PE X e (tM X.K W f)) (hg : Gl X "isinstance") (hm : X.mg "isinstance" = none) (hg2 : Gl X tyn) (hm2 : X.mg tyn = none) (hv : bootBuiltins tyn = some (.type ty)) (hn : tyn ≠ "__name__") (hdb : (tyn == ("__debug__" : Str)) = false)
    (he : starEach (e :: [.Name tyn p2]) X.env = (false, eval e X.env) :: starEach [.Name tyn p2] X.env) : PE X (.Call (.Name "isinstance" p) [e, .Name tyn p2] [] pos) (tM X.K W (dUn (isiD ty) f)) := by
  have hT : PE X (.Name tyn p2) (tC (.ty ty)) := pe_bltn hg2 hm2 hv rfl hn hdb
  refine PE_imp (pe_callB call_isi hg hm boot_isinstance (pa_cons ha (pa_cons hT pa_nil rfl) he) (by decide +kernel) (by decide +kernel) he rfl) fun σ H Q ⟨G, δ, H0, R, h⟩ => ⟨G, δ, H0, R, PoE.bind h fun d δ1 v H01 H1 R1 s1 r1 h1 => ?_⟩
  obtain ⟨z, hz, h3⟩ := ofO_some h1
  unfold isiD at hz
  split at hz
  · cases hz
  rename_i ne
  have ne : isExc d = false := by simpa using ne
  cases hk : kitB (tyD d) ty with
  | none => rw [hk] at hz; cases hz
  | some b =>
    rw [hk] at hz
    cases hz
    exact ⟨v, .ty ty, _, _, b, rfl, .ty ty, r1.tyx R1.hs ne, kit_ty hk, h3.val R1 (.bl _)⟩
/-! ### subscripts, slices -/
def idxD : D → D → Option D
  | .lst ds, .int i => atI ds i
  | .tup ds, .int i => atI ds i
  | .str x, .int i => if x.length ≤ sizeLine then (atI x.cps.toList i).map fun c => .str ⟨#[c]⟩ else none
  | _, _ => none
theorem reps_at {K : PySem.W.Frag} {H : Hp} {vs : List V} {ds : List D} {i : Int} {z : D} (r : Reps K H vs ds) (h : atI ds i = some z) : ∃ v, atI vs i = some v ∧ Rep K H v z := by
  unfold atI at h ⊢
  rw [r.length]
  cases e : ixN ds.length i with
  | none => rw [e] at h; cases h
  | some j =>
    rw [e] at h
    exact r.get h
theorem ix_M : IxR X (rM X.K idxD) := by
  have h := ix_list (X := X) |>.or (ix_tup.or ix_str)
  intro value slice pins s σ H x y v u Q I rx ry q hs
  refine h value slice pins s σ H x y v u Q I rx ry ?_ hs
  obtain ⟨H0, d, e, z, s, rd, re, hz, q⟩ := q
  unfold idxD at hz
  split at hz
  · cases re
    cases rd with
    | lst h rs =>
      obtain ⟨w, e1, r1⟩ := reps_at rs hz
      exact .inl ⟨_, _, _, _, rfl, rfl, s.seq h, e1, q _ H0 H (Gr.refl s) r1⟩
  · cases re
    cases rd with
    | tup h rs =>
      obtain ⟨w, e1, r1⟩ := reps_at rs hz
      exact .inr (.inl ⟨_, _, _, _, rfl, rfl, Same.seqT s h, e1, q _ H0 H (Gr.refl s) r1⟩)
  · cases re
    cases rd
    split at hz
    · rename_i c
      rename_i x i
      cases e : atI x.cps.toList i with
      | none => rw [e] at hz; cases hz
      | some k =>
        rw [e] at hz
        cases hz
        exact .inr (.inr ⟨_, _, _, rfl, rfl, c, e, q _ H0 H (Gr.refl s) (.str _)⟩)
    · cases hz
  · cases hz
def cutG {α : Type} (xs : List α) (lo hi : Option Int) : List α := (xs.drop (HT.sIx xs.length 0 lo)).take (HT.sIx xs.length xs.length hi - HT.sIx xs.length 0 lo)
theorem reps_cut {K : PySem.W.Frag} {H : Hp} {vs : List V} {ds : List D} (r : Reps K H vs ds) (lo hi : Option Int) : Reps K H (cutV vs lo hi) (cutG ds lo hi) := by
  unfold cutV cutG
  rw [r.length]
  exact (r.drop _).take _
/-- a part of a slice -/
abbrev PDen := En → RE
inductive RP where
  | ok (i : Option Int) (δ : En) | rz (c : Exc) (δ : En) | bad
def dPart : Option Den → En → RP
  | none, δ => .ok none δ
  | some f, δ => match f δ with
    | .ok (.int i) δ => .ok (some i) δ
    | .rz c δ => .rz c δ
    | _ => .bad
def bindP (r : RP) (k : Option Int → En → RE) : RE :=
  match r with
  | .ok d δ => k d δ
  | .rz c δ => .rz c δ
  | .bad => .bad
def bindPF (r : RP) (k : Option Int → En → RF) : RF :=
  match r with
  | .ok d δ => k d δ
  | .rz c δ => .rz c δ
  | .bad => .bad
def PoP (K : PySem.W.Frag) (W : Wi) (G : Gh) (σ : L2.St) (H0 : Hp) (r : RP) (Q : Option Int → Hp → Prop) : Prop :=
  match r with
  | .ok i δ => ∀ H0' H', Rl K G δ σ H0' H' → Same H0 H0' → Q i H'
  | .rz c δ => ∀ cls dd H0' H', Rl K G δ σ H0' H' → Same H0 H0' → ExIs K W.ct c cls dd H' → W.w cls dd σ H'
  | .bad => False
def tP (K : PySem.W.Frag) (W : Wi) (f : En → RP) : TO := fun σ H Q => ∃ G δ H0, Rl K G δ σ H0 H ∧ PoP K W G σ H0 (f δ) Q
theorem PO_imp {e : Option Expr} {t t' : TO} (h : PO X e t) (i : ∀ σ H Q, t' σ H Q → t σ H Q) : PO X e t' := ⟨fun pins s σ H Q I q => h.run pins s σ H Q I (i σ H Q q)⟩
theorem mp_none : PO X none (tP X.K W (dPart none)) := PO_imp po_none fun σ H Q ⟨G, δ, H0, R, h⟩ => h H0 H R (Same.refl _)
theorem mp_some {e : Expr} {f : Den} (h : PE X e (tM X.K W f)) : PO X (some e) (tP X.K W (dPart (some f))) := PO_imp (po_some h) fun σ H Q ⟨G, δ, H0, R, q⟩ => ⟨G, δ, H0, R, by
  simp only [dPart] at q
  cases e : f δ with
  | bad => rw [e] at q; exact q
  | rz c δ1 => rw [e] at q; exact q
  | ok d δ1 =>
    rw [e] at q
    cases d with
    | int i => exact fun v H1 H' R1 s1 r1 => by cases r1; exact ⟨i, rfl, q H1 H' R1 s1⟩
    | _ => exact q.elim⟩
theorem PoP.up {K : PySem.W.Frag} {G : Gh} {σ : L2.St} {H0 H0' : Hp} {r : RP} {Q : Option Int → Hp → Prop} (h : PoP K W G σ H0 r Q) (s : Same H0 H0') : PoP K W G σ H0' r Q := by
  cases r with
  | ok d δ => exact fun H0'' H' R s' => h H0'' H' R (s.trans s')
  | rz c δ => exact fun cls dd H0'' H' R s' => h cls dd H0'' H' R (s.trans s')
  | bad => exact h
theorem PoP.bind {K : PySem.W.Frag} {G : Gh} {σ : L2.St} {H0 : Hp} {Q : VK} {r : RP} {Q' : Option Int → Hp → Prop} {k : Option Int → En → RE} (h : PoE K W G σ H0 (bindP r k) Q)
    (hk : ∀ i δ H1 H', Rl K G δ σ H1 H' → Same H0 H1 → PoE K W G σ H1 (k i δ) Q → Q' i H') : PoP K W G σ H0 r Q' := by
  cases r with
  | ok d δ => exact fun H1 H' R s => hk d δ H1 H' R s (h.up s)
  | rz c δ => exact h
  | bad => exact h
theorem PoP.bindF {K : PySem.W.Frag} {G : Gh} {σ : L2.St} {H0 : Hp} {Q : VK} {r : RP} {Q' : Option Int → Hp → Prop} {k : Option Int → En → RF} (h : PoF K W G σ H0 (bindPF r k) Q)
    (hk : ∀ i δ H1 H', Rl K G δ σ H1 H' → Same H0 H1 → PoF K W G σ H1 (k i δ) Q → Q' i H') : PoP K W G σ H0 r Q' := by
  cases r with
  | ok d δ => exact fun H1 H' R s => hk d δ H1 H' R s (h.up s)
  | rz c δ => exact h
  | bad => exact h
/-- a list's slice: a new list -/
def fCut (f : Den) (lo hi : Option Den) : FDen := fun δ => bindEF (f δ) fun d δ1 => bindPF (dPart lo δ1) fun l δ2 => bindPF (dPart hi δ2) fun u δ3 => match d with
  | .lst ds => .ok (.lst (cutG ds l u)) δ3
  | _ => .bad
theorem mf_cut {e : Expr} {f : Den} {lo hi : Option Expr} {fl fh : Option Den} {p2 : Pos} (he : PE X e (tM X.K W f)) (hl : PO X lo (tP X.K W (dPart fl))) (hh : PO X hi (tP X.K W (dPart fh))) : PE X (.Subscript e (.Slice lo hi none p2) pos) (tF X.K W (fCut f fl fh)) :=
  PE_imp (pe_slice sl_list he hl hh) fun σ H Q ⟨G, δ, H0, R, h⟩ => ⟨G, δ, H0, R, PoE.bindF h fun d δ1 v H1 H' R1 s1 r1 h1 => ⟨G, δ1, H1, R1, PoP.bindF h1 fun l δ2 H2 H'' R2 s2 h2 => ⟨G, δ2, H2, R2, PoP.bindF h2 fun u δ3 H3 H''' R3 s3 h3 => by
    have r3 := r1.mono (s2.trans s3)
    split at h3
    · cases r3 with
      | lst q rs => exact ⟨_, _, rfl, R3.hs.seq q, fun p hp => h3.laid R3 hp ⟨_, upd_same, reps_cut rs l u⟩⟩
    · exact h3.elim⟩⟩⟩
/-- a tuple's slice, not the whole; a text's -/
def slD (d : D) (l u : Option Int) : Option D :=
  match d with
  | .tup ds => if HT.sIx ds.length 0 l = 0 ∧ HT.sIx ds.length ds.length u = ds.length then none else some (.tup (cutG ds l u))
  | .str x => if x.length ≤ sizeLine then some (.str (cutS x l u)) else none
  | .lst ds => some (.lst (cutG ds l u))
  | _ => none
def dCut (f : Den) (lo hi : Option Den) : Den := fun δ => bindE (f δ) fun d δ1 => bindP (dPart lo δ1) fun l δ2 => bindP (dPart hi δ2) fun u δ3 => ofO (slD d l u) δ3
theorem me_cut {e : Expr} {f : Den} {lo hi : Option Expr} {fl fh : Option Den} {p2 : Pos} (he : PE X e (tM X.K W f)) (hl : PO X lo (tP X.K W (dPart fl))) (hh : PO X hi (tP X.K W (dPart fh))) : PE X (.Subscript e (.Slice lo hi none p2) pos) (tM X.K W (dCut f fl fh)) :=
  PE_imp (pe_slice ((sl_tup.or sl_str).or sl_list) he hl hh) fun σ H Q ⟨G, δ, H0, R, h⟩ => ⟨G, δ, H0, R, PoE.bind h fun d δ1 v H1 H' R1 s1 r1 h1 => ⟨G, δ1, H1, R1, PoP.bind h1 fun l δ2 H2 H'' R2 s2 h2 => ⟨G, δ2, H2, R2, PoP.bind h2 fun u δ3 H3 H''' R3 s3 h3 => by
    have r3 := r1.mono (s2.trans s3)
    obtain ⟨z, hz, h4⟩ := ofO_some h3
    unfold slD at hz
    split at hz
    · split at hz
      · cases hz
      · rename_i c
        cases hz
        cases r3 with
        | tup q rs =>
          refine .inl (.inl ⟨_, _, rfl, Same.seqT R3.hs q, by rw [rs.length]; exact c, fun p hp => ?_⟩)
          exact h4.new R3 (Gr.new R3.hs hp) (.tup (.inl (.inl upd_same)) ((reps_cut rs l u).mono (Gr.new R3.hs hp).h0))
    · split at hz
      · rename_i c
        cases hz
        cases r3
        exact .inl (.inr ⟨_, rfl, c, h4.val R3 (.str _)⟩)
      · cases hz
    · cases hz
      cases r3 with
      | lst q rs =>
        exact .inr ⟨_, _, rfl, R3.hs.seq q, fun p hp => h4.new R3 (Gr.new R3.hs hp) (.lst (.inl (.inl upd_same)) ((reps_cut rs l u).mono (Gr.new R3.hs hp).h0))⟩
    · cases hz⟩⟩⟩
/-! ### targets -/
/-- storing changes the slots of vs alone -/
def stD (i : Nat) (d : D) (δ : En) : Option En :=
  match δ[i]? with
  | some (.pi _) => none
  | some _ => some (δ.set i (.va d))
  | none => none
inductive Tg where
  | var (i : Nat) | tup (is : List Nat) | nst (iss : List (List Nat))
def stDs : List Nat → List D → En → Option En
  | [], [], δ => some δ
  | i :: is, d :: ds, δ => (stD i d δ).bind (stDs is ds)
  | _, _, _ => none
def stT (is : List Nat) : D → En → Option En
  | .tup ds, δ => stDs is ds δ
  | .lst ds, δ => stDs is ds δ
  | _, _ => none
def stNs : List (List Nat) → List D → En → Option En
  | [], [], δ => some δ
  | is :: iss, d :: ds, δ => (stT is d δ).bind (stNs iss ds)
  | _, _, _ => none
def Tg.st : Tg → D → En → Option En
  | .var i, d, δ => stD i d δ
  | .tup is, .tup ds, δ => stDs is ds δ
  | .tup is, .lst ds, δ => stDs is ds δ
  | .nst iss, .tup ds, δ => stNs iss ds δ
  | .nst iss, .lst ds, δ => stNs iss ds δ
  | _, _, _ => none
def Tg.slots : Tg → List Nat
  | .var i => [i]
  | .tup is => is
  | .nst iss => iss.flatten
def gM (K : PySem.W.Frag) (g : D → En → Option En) (vs : List Nat) : TG := fun v σ H Q => ∃ G δ H0 d δ', Rl K G δ σ H0 H ∧ Rep K H0 v d ∧ g d δ = some δ' ∧
  ∀ σ', Rl K G δ' σ' H0 H → (∀ j, j ∉ vs → σ'[j]? = σ[j]?) → σ'.length = σ.length → Q σ' H
theorem PG_imp {tg : Expr} {t t' : TG} (h : PG X tg t) (i : ∀ v σ H Q, t' v σ H Q → t v σ H Q) : PG X tg t' := by
  refine ⟨?_⟩
  intros
  apply h.run <;> first | assumption | (apply i; assumption)
theorem stD_some {i : Nat} {d : D} {δ δ' : En} (h : stD i d δ = some δ') : δ' = δ.set i (.va d) ∧ ∀ o, δ[i]? ≠ some (.pi o) := by
  unfold stD at h
  split at h
  · cases h
  · rename_i s hs e
    cases h
    exact ⟨rfl, fun o z => by rw [z] at e; cases e; exact hs _ rfl⟩
  · cases h
theorem mg_name {i : Nat} {x : Str} (h : PG X (.Name x pos) (gName i)) : PG X (.Name x pos) (gM X.K (Tg.st (.var i)) [i]) := PG_imp h fun v σ H Q ⟨G, δ, H0, d, δ', R, r, e, q⟩ => by
  obtain ⟨rfl, np⟩ := stD_some e
  refine q _ (R.set_va r np) (fun j hj => ?_) (List.length_set)
  rw [List.getElem?_set_ne (fun z => hj (by rw [z]; exact List.mem_singleton_self _))]
end
end Z

namespace Z
open PySem PySem.Spec PyProof.Rows L2
section
variable {X : Cx} {W : Wi} {pos : Pos}
/-! ### tuple targets -/
theorem PG_or {tg : Expr} {t t' : TG} (h : PG X tg t) (h' : PG X tg t') : PG X tg (fun v σ H Q => t v σ H Q ∨ t' v σ H Q) := ⟨fun pins s σ H v u Q I r q => q.elim (h.run pins s σ H v u Q I r) (h'.run pins s σ H v u Q I r)⟩
def gNames : List Nat → TGs
  | [] => gNil
  | i :: is => gCons (gName i) (gNames is)
theorem gNames_of {K : PySem.W.Frag} {G : Gh} {H0 H : Hp} : ∀ {is : List Nat} {vs : List V} {ds : List D} {δ δ' : En} {σ : L2.St} {Q : L2.St → Hp → Prop}, Rl K G δ σ H0 H → Reps K H0 vs ds → stDs is ds δ = some δ' →
    (∀ σ', Rl K G δ' σ' H0 H → (∀ j, j ∉ is → σ'[j]? = σ[j]?) → σ'.length = σ.length → Q σ' H) → gNames is vs σ H Q
  | [], _, _, δ, δ', σ, Q, R, .nil, e, q => by
    have e : some δ = some δ' := e
    cases e
    exact ⟨rfl, q σ R (fun _ _ => rfl) rfl⟩
  | [], _, _, δ, δ', σ, Q, R, .cons _ _, e, q => by cases e
  | i :: is, _, _, δ, δ', σ, Q, R, .nil, e, q => by cases e
  | i :: is, _, _, δ, δ', σ, Q, R, .cons (d := d) (ds := ds) r rs, e, q => by
    have e : (stD i d δ).bind (stDs is ds) = some δ' := e
    cases e1 : stD i d δ with
    | none => rw [e1] at e; cases e
    | some δ1 =>
      rw [e1] at e
      obtain ⟨rfl, np⟩ := stD_some e1
      refine ⟨_, _, rfl, gNames_of (R.set_va r np) rs e fun σ' R' k kl => q σ' R' (fun j hj => ?_) (by rw [kl, List.length_set])⟩
      rw [k j fun z => hj (List.mem_cons_of_mem _ z), List.getElem?_set_ne (fun z => hj (by rw [z]; exact List.mem_cons_self))]
theorem mg_tup {es : List Expr} {k : Nat} {is : List Nat} (hc : X.calm = true) (h : PGs X es (gNames is)) (hn : (assignEach es X.env).length = is.length) (hst : (assignEach es X.env).findIdx? (·.1) = none) :
    PG X (.Tuple es k pos) (gM X.K (Tg.st (.tup is)) is) := by
  refine PG_imp (PG_or (pg_tup hc h hn hst) (pg_unl hc h hn hst)) fun v σ H Q ⟨G, δ, H0, d, δ', R, r, e, q⟩ => ?_
  have len : ∀ {is : List Nat} {ds : List D} {δ : En} {δ' : En}, stDs is ds δ = some δ' → ds.length = is.length := by
    intro is
    induction is with
    | nil => intro ds δ δ' h; cases ds with
      | nil => rfl
      | cons _ _ => cases h
    | cons i is ih => intro ds δ δ' h; cases ds with
      | nil => cases h
      | cons d ds =>
        have e : (stD i d δ).bind (stDs is ds) = some δ' := h
        cases e1 : stD i d δ with
        | none => rw [e1] at e; cases e
        | some δ1 => rw [e1] at e; rw [List.length_cons, List.length_cons, ih e]
  cases r with
  | tup hq rs =>
    have e : stDs is _ δ = some δ' := e
    exact .inl ⟨_, _, rfl, Same.seqT R.hs hq, by rw [rs.length, len e], gNames_of R rs e q⟩
  | lst hq rs =>
    have e : stDs is _ δ = some δ' := e
    exact .inr ⟨_, _, rfl, R.hs.seq hq, by rw [rs.length, len e], gNames_of R rs e q⟩
  | _ => cases e

def gNsts (K : PySem.W.Frag) : List (List Nat) → TGs
  | [] => gNil
  | is :: iss => gCons (gM K (Tg.st (.tup is)) is) (gNsts K iss)
theorem stT_st {is : List Nat} {d : D} {δ : En} : stT is d δ = Tg.st (.tup is) d δ := by
  cases d <;> rfl
theorem stNs_len : ∀ {iss : List (List Nat)} {ds : List D} {δ δ' : En}, stNs iss ds δ = some δ' → ds.length = iss.length
  | [], [], _, _, _ => rfl
  | [], _ :: _, _, _, h => by cases h
  | _ :: _, [], _, _, h => by cases h
  | is :: iss, d :: ds, δ, δ', h => by
    have e : (stT is d δ).bind (stNs iss ds) = some δ' := h
    cases e1 : stT is d δ with
    | none => rw [e1] at e; cases e
    | some δ1 => rw [e1] at e; rw [List.length_cons, List.length_cons, stNs_len e]
theorem gNsts_of {K : PySem.W.Frag} {G : Gh} {H0 H : Hp} : ∀ {iss : List (List Nat)} {vs : List V} {ds : List D} {δ δ' : En} {σ : L2.St} {Q : L2.St → Hp → Prop}, Rl K G δ σ H0 H → Reps K H0 vs ds → stNs iss ds δ = some δ' →
    (∀ σ', Rl K G δ' σ' H0 H → (∀ j, j ∉ iss.flatten → σ'[j]? = σ[j]?) → σ'.length = σ.length → Q σ' H) → gNsts K iss vs σ H Q
  | [], _, _, δ, δ', σ, Q, R, .nil, e, q => by
    have e : some δ = some δ' := e
    cases e
    exact ⟨rfl, q σ R (fun _ _ => rfl) rfl⟩
  | [], _, _, δ, δ', σ, Q, R, .cons _ _, e, q => by cases e
  | i :: is, _, _, δ, δ', σ, Q, R, .nil, e, q => by cases e
  | is :: iss, _, _, δ, δ', σ, Q, R, .cons (d := d) (ds := ds) r rs, e, q => by
    have e : (stT is d δ).bind (stNs iss ds) = some δ' := e
    cases e1 : stT is d δ with
    | none => rw [e1] at e; cases e
    | some δ1 =>
      rw [e1] at e
      refine ⟨_, _, rfl, G, δ, H0, d, δ1, R, r, stT_st.symm.trans e1, fun σ1 R1 k1 l1 => gNsts_of R1 rs e fun σ' R' k kl => q σ' R' (fun j hj => ?_) (kl.trans l1)⟩
      rw [k j fun z => hj (by rw [List.flatten_cons]; exact List.mem_append_right _ z), k1 j fun z => hj (by rw [List.flatten_cons]; exact List.mem_append_left _ z)]
theorem mg_nst {es : List Expr} {k : Nat} {iss : List (List Nat)} (hc : X.calm = true) (h : PGs X es (gNsts X.K iss)) (hn : (assignEach es X.env).length = iss.length) (hst : (assignEach es X.env).findIdx? (·.1) = none) :
    PG X (.Tuple es k pos) (gM X.K (Tg.st (.nst iss)) iss.flatten) := by
  refine PG_imp (PG_or (pg_tup hc h hn hst) (pg_unl hc h hn hst)) fun v σ H Q ⟨G, δ, H0, d, δ', R, r, e, q⟩ => ?_
  cases r with
  | tup hq rs =>
    have e : stNs iss _ δ = some δ' := e
    exact .inl ⟨_, _, rfl, Same.seqT R.hs hq, by rw [rs.length, stNs_len e], gNsts_of R rs e q⟩
  | lst hq rs =>
    have e : stNs iss _ δ = some δ' := e
    exact .inr ⟨_, _, rfl, R.hs.seq hq, by rw [rs.length, stNs_len e], gNsts_of R rs e q⟩
  | _ => cases e
/-! ### what is walked -/
structure Yields (K : PySem.W.Frag) (J : It) (He H0 : Hp) (ds : List D) : Prop where
  go : ∀ i H, Same H0 H → Same He H → i < ds.length → J.go i H
  stop : ∀ i H, Same H0 H → Same He H → i = ds.length → J.stop i H
  yld : ∀ i H x H' Hc, Same H0 Hc → Same Hc H → Same He H → i < ds.length → J.yld i H x H' → ∃ d H1, ds[i]? = some d ∧ Gr Hc H H1 H' ∧ Rep K H1 x d
inductive RI where
  | ok (ds : List D) (δ : En) | rz (c : Exc) (δ : En) | bad
def PoI (K : PySem.W.Frag) (W : Wi) (G : Gh) (σ : L2.St) (H0 : Hp) (r : RI) (R : It → Hp → Prop) : Prop :=
  match r with
  | .ok ds δ => ∀ J H0' H', Rl K G δ σ H0' H' → Same H0 H0' → Yields K J G.He H0' ds → R J H'
  | .rz c δ => ∀ cls dd H0' H', Rl K G δ σ H0' H' → Same H0 H0' → ExIs K W.ct c cls dd H' → W.w cls dd σ H'
  | .bad => False
def tI (K : PySem.W.Frag) (W : Wi) (f : En → RI) : TI := fun σ H R => ∃ G δ H0, Rl K G δ σ H0 H ∧ PoI K W G σ H0 (f δ) R
theorem PI_imp {tg e : Expr} {t t' : TI} (h : PI X tg e t) (i : ∀ σ H Q, t' σ H Q → t σ H Q) : PI X tg e t' := ⟨fun pins s σ H Q I q => h.run pins s σ H Q I (i σ H Q q)⟩
theorem PI_or {tg e : Expr} {t t' : TI} (h : PI X tg e t) (h' : PI X tg e t') : PI X tg e (fun σ H Q => t σ H Q ∨ t' σ H Q) := ⟨fun pins s σ H Q I q => q.elim (h.run pins s σ H Q I) (h'.run pins s σ H Q I)⟩
def seqOf : D → Option (List D)
  | .lst ds => some ds
  | .tup ds => some ds
  | _ => none
def iSeq (f : Den) : En → RI := fun δ => match f δ with
  | .ok d δ1 => (match seqOf d with
    | some ds => .ok ds δ1
    | none => .bad)
  | .rz c δ => .rz c δ
  | .bad => .bad
theorem yields_lst {K : PySem.W.Frag} {He H0 : Hp} {a : Addr} {xs : List V} {ds : List D} (h : SqL K H0 a xs) (r : Reps K H0 xs ds) : Yields K (Itl K a) He H0 ds where
  go := fun i H s _ hi => by
    obtain ⟨v, e, _⟩ := r.get (List.getElem?_eq_getElem hi)
    exact ⟨xs, v, s.seq h, e⟩
  stop := fun i H s _ hi => ⟨xs, s.seq h, by rw [r.length]; exact Nat.le_of_eq hi.symm⟩
  yld := fun i H x H' Hc s0 s _ hi y => by
    obtain ⟨rfl, y⟩ := y
    obtain ⟨v, e, rv⟩ := r.get (List.getElem?_eq_getElem hi)
    have e2 := y xs (s.seq (s0.seq h))
    rw [e] at e2
    cases e2
    exact ⟨_, Hc, List.getElem?_eq_getElem hi, Gr.refl s, rv.mono s0⟩
theorem yields_tup {K : PySem.W.Frag} {He H0 : Hp} {a : Addr} {xs : List V} {ds : List D} (h : SqT K H0 a xs) (r : Reps K H0 xs ds) : Yields K (Itt K a) He H0 ds where
  go := fun i H s _ hi => by
    obtain ⟨v, e, _⟩ := r.get (List.getElem?_eq_getElem hi)
    exact ⟨xs, v, Same.seqT s h, e⟩
  stop := fun i H s _ hi => ⟨xs, Same.seqT s h, by rw [r.length]; exact Nat.le_of_eq hi.symm⟩
  yld := fun i H x H' Hc s0 s _ hi y => by
    obtain ⟨rfl, y⟩ := y
    obtain ⟨v, e, rv⟩ := r.get (List.getElem?_eq_getElem hi)
    have e2 := y xs (Same.seqT s (Same.seqT s0 h))
    rw [e] at e2
    cases e2
    exact ⟨_, Hc, List.getElem?_eq_getElem hi, Gr.refl s, rv.mono s0⟩
theorem mi_seq {tg e : Expr} {f : Den} (h : PE X e (tM X.K W f)) : PI X tg e (tI X.K W (iSeq f)) := by
  -- the two readings of e differ in the tail alone
  refine ⟨fun pins s σ H R I ⟨G, δ, H0, Rr, q⟩ => ?_⟩
  unfold iSeq at q
  cases ef : f δ with
  | bad => rw [ef] at q; exact q.elim
  | rz c δ1 =>
    rw [ef] at q
    exact (pi_list (tg := tg) h).run pins s σ H R I ⟨G, δ, H0, Rr, by rw [ef]; exact q⟩
  | ok d δ1 =>
    rw [ef] at q
    cases d with
    | lst ds => exact (pi_list (tg := tg) h).run pins s σ H R I ⟨G, δ, H0, Rr, by
        rw [ef]
        intro v H1 H' R1 s1 r1
        cases r1 with
        | lst hq rs => exact ⟨_, rfl, ⟨_, R1.hs.seq hq⟩, q _ H1 H' R1 s1 (yields_lst hq rs)⟩⟩
    | tup ds => exact (pi_tup (tg := tg) h).run pins s σ H R I ⟨G, δ, H0, Rr, by
        rw [ef]
        intro v H1 H' R1 s1 r1
        cases r1 with
        | tup hq rs => exact ⟨_, rfl, ⟨_, Same.seqT R1.hs hq⟩, q _ H1 H' R1 s1 (yields_tup hq rs)⟩⟩
    | _ => exact q.elim
/-- range -/
def rngD (lo : Int) : Nat → List D
  | 0 => []
  | n + 1 => .int lo :: rngD (lo + 1) n
theorem rngD_len : ∀ (lo : Int) (n : Nat), (rngD lo n).length = n
  | _, 0 => rfl
  | lo, n + 1 => by rw [rngD, List.length_cons, rngD_len]
theorem rngD_get : ∀ (lo : Int) (n i : Nat), i < n → (rngD lo n)[i]? = some (.int (lo + i))
  | _, 0, _, h => absurd h (by omega)
  | lo, n + 1, 0, _ => by rw [rngD]; simp
  | lo, n + 1, i + 1, h => by
    rw [rngD, List.getElem?_cons_succ, rngD_get (lo + 1) n i (by omega)]
    congr 2
    omega
theorem yields_rng {K : PySem.W.Frag} {He H0 : Hp} (lo : Int) (n : Nat) : Yields K (Itr lo n) He H0 (rngD lo n) where
  go := fun i H s _ hi => by rw [rngD_len] at hi; exact hi
  stop := fun i H s _ hi => by rw [rngD_len] at hi; exact Nat.le_of_eq hi.symm
  yld := fun i H x H' Hc s0 s _ hi y => by
    obtain ⟨rfl, rfl⟩ := y
    rw [rngD_len] at hi
    exact ⟨_, Hc, rngD_get lo n i hi, Gr.refl s, .int _⟩
def rngOk (i : Int) : Bool := decide (-(2 ^ 62) ≤ i) && decide (i < 2 ^ 62)
theorem rngOk_iff {i : Int} (h : rngOk i = true) : -(2 ^ 62) ≤ i ∧ i < 2 ^ 62 := by
  unfold rngOk at h
  rw [Bool.and_eq_true, decide_eq_true_eq, decide_eq_true_eq] at h
  exact h
def rngL : List D → Option (List D)
  | [.int j] => if rngOk j then some (rngD 0 j.toNat) else none
  | [.int i, .int j] => if rngOk i && rngOk j then some (rngD i (j - i).toNat) else none
  | _ => none
def iRng (fs : List Den) : En → RI := fun δ => match dArgs fs δ with
  | .ok ds δ1 => (match rngL ds with
    | some es => .ok es δ1
    | none => .bad)
  | .rz c δ => .rz c δ
  | .bad => .bad
theorem dArgs_len : ∀ {fs : List Den} {δ : En} {ds : List D} {δ1 : En}, dArgs fs δ = .ok ds δ1 → ds.length = fs.length := by
  intro fs
  induction fs with
  | nil => intro δ ds δ1 h; cases h; rfl
  | cons f fs ih =>
    intro δ ds δ1 h
    unfold dArgs at h
    cases e : f δ with
    | ok d δ2 =>
      rw [e] at h
      have h : bindAA (dArgs fs δ2) (fun ds δ2 => RA.ok (d :: ds) δ2) = .ok ds δ1 := h
      cases e2 : dArgs fs δ2 with
      | ok ds2 δ3 =>
        rw [e2] at h
        have h : RA.ok (d :: ds2) δ3 = .ok ds δ1 := h
        cases h
        rw [List.length_cons, List.length_cons, ih e2]
      | rz c δ3 => rw [e2] at h; cases h
      | bad => rw [e2] at h; cases h
    | rz c δ2 => rw [e] at h; cases h
    | bad => rw [e] at h; cases h
theorem rng1_read {f : Den} {σ : L2.St} {H : Hp} {R : It → Hp → Prop} (h : tI X.K W (iRng [f]) σ H R) : L2.iRng1 (tA X.K W (dArgs [f])) σ H R :=
  match h with
  | ⟨G, δ, H0, Rr, q⟩ => ⟨G, δ, H0, Rr, by
    unfold iRng at q
    cases e : dArgs [f] δ with
    | bad => rw [e] at q; exact q
    | rz c δ1 => rw [e] at q; exact q
    | ok ds δ1 =>
      rw [e] at q
      intro vs H1 H' R1 s1 r1
      have l := dArgs_len e
      match ds, l, r1, q with
      | [d], _, r1, q =>
        obtain ⟨v, rfl, rv⟩ := reps1 r1
        cases d with
        | int j =>
          simp only [rngL] at q
          split at q
          · rename_i es he
            split at he
            · rename_i c
              cases he
              obtain ⟨c1, c2⟩ := rngOk_iff c
              cases rv
              exact ⟨j, rfl, c1, c2, q _ H1 H' R1 s1 (yields_rng 0 j.toNat)⟩
            · cases he
          · exact q.elim
        | _ => exact q.elim⟩
theorem mi_rng1 {tg a : Expr} {f : Den} {p : Pos} (hg : Gl X "range") (hm : X.mg "range" = none) (ha : PA X [a] (tA X.K W (dArgs [f]))) (hs : starEach [a] X.env = [(false, eval a X.env)]) : PI X tg (.Call (.Name "range" p) [a] [] pos) (tI X.K W (iRng [f])) :=
  PI_imp (pi_range1 hg hm ha hs) fun σ H R q => rng1_read q
theorem mi_rng2 {tg a b : Expr} {f g : Den} {p : Pos} (hg : Gl X "range") (hm : X.mg "range" = none) (ha : PA X [a, b] (tA X.K W (dArgs [f, g]))) (hs : starEach [a, b] X.env = [(false, eval a X.env), (false, eval b X.env)]) (hs2 : starEach [b] X.env = [(false, eval b X.env)]) : PI X tg (.Call (.Name "range" p) [a, b] [] pos) (tI X.K W (iRng [f, g])) :=
  PI_imp (pi_range2 hg hm ha hs hs2) fun σ H R ⟨G, δ, H0, Rr, q⟩ => ⟨G, δ, H0, Rr, by
    unfold iRng at q
    cases e : dArgs [f, g] δ with
    | bad => rw [e] at q; exact q
    | rz c δ1 => rw [e] at q; exact q
    | ok ds δ1 =>
      rw [e] at q
      intro vs H1 H' R1 s1 r1
      have l := dArgs_len e
      match ds, l, r1, q with
      | [d, d2], _, r1, q =>
        obtain ⟨v, v2, rfl, rv, rv2⟩ := reps2 r1
        cases d with
        | int i =>
          cases d2 with
          | int j =>
            simp only [rngL] at q
            split at q
            · rename_i es he
              split at he
              · rename_i c
                cases he
                rw [Bool.and_eq_true] at c
                obtain ⟨c1, c2⟩ := rngOk_iff c.1
                obtain ⟨c3, c4⟩ := rngOk_iff c.2
                cases rv
                cases rv2
                exact ⟨i, j, rfl, ⟨c1, c2, c3, c4⟩, q _ H1 H' R1 s1 (yields_rng i (j - i).toNat)⟩
              · cases he
            · exact q.elim
          | _ => exact q.elim
        | _ => exact q.elim⟩

/-! ### statements -/
def PoS (K : PySem.W.Frag) (W : Wi) (G : Gh) (H0 : Hp) (r : RS) (D : Ends) : Prop :=
  match r with
  | .nx δ => ∀ σ' H0' H', Rl K G δ σ' H0' H' → Same H0 H0' → D.nx σ' H'
  | .bk δ => ∀ σ' H0' H', Rl K G δ σ' H0' H' → Same H0 H0' → D.bk σ' H'
  | .ct δ => ∀ σ' H0' H', Rl K G δ σ' H0' H' → Same H0 H0' → D.ct σ' H'
  | .rt d δ => ∀ v σ' H0' H', Rl K G δ σ' H0' H' → Same H0 H0' → Rep K H0' v d → D.rt v H'
  | .ro o δ => ∀ a σ' H0' H', Rl K G δ σ' H0' H' → Same H0 H0' → H0' a = none → G.He a = none → OwnAt K H0' H' a o → (∀ (j : Nat) (s : Sl), δ[j]? = some s → isOwn s = true → σ'[j]? ≠ some (some (V.ref a))) → D.rt (.ref a) H'
  | .rz c δ => ∀ cls dd σ' H0' H', Rl K G δ σ' H0' H' → Same H0 H0' → ExIs K W.ct c cls dd H' → W.w cls dd σ' H'
  | .bad => False
theorem PoS.up {K : PySem.W.Frag} {G : Gh} {H0 H0' : Hp} {r : RS} {D : Ends} (h : PoS K W G H0 r D) (s : Same H0 H0') : PoS K W G H0' r D := by
  cases r with
  | nx δ => exact fun σ' H1 H' R s' => h σ' H1 H' R (s.trans s')
  | bk δ => exact fun σ' H1 H' R s' => h σ' H1 H' R (s.trans s')
  | ct δ => exact fun σ' H1 H' R s' => h σ' H1 H' R (s.trans s')
  | rt d δ => exact fun v σ' H1 H' R s' => h v σ' H1 H' R (s.trans s')
  | ro d δ => exact fun v σ' H1 H' R s' => h v σ' H1 H' R (s.trans s')
  | rz c δ => exact fun cls dd σ' H1 H' R s' => h cls dd σ' H1 H' R (s.trans s')
  | bad => exact h
def sM (K : PySem.W.Frag) (W : Wi) (f : SDen) : TS := fun D σ H => ∃ G δ H0, Rl K G δ σ H0 H ∧ PoS K W G H0 (f δ) D
def bindS (r : RS) (k : En → RS) : RS :=
  match r with
  | .nx δ => k δ
  | .bk δ => .bk δ
  | .ct δ => .ct δ
  | .rt d δ => .rt d δ
  | .ro d δ => .ro d δ
  | .rz c δ => .rz c δ
  | .bad => .bad
def bindES (r : RE) (k : D → En → RS) : RS :=
  match r with
  | .ok d δ => k d δ
  | .rz c δ => .rz c δ
  | .bad => .bad
def bindTS (r : RE) (k : Bool → En → RS) : RS := bindES r fun d δ => match d with
  | .bl b => k b δ
  | _ => .bad
def sSeq (f g : SDen) : SDen := fun δ => bindS (f δ) g
def sNil : SDen := fun δ => .nx δ
theorem PoS.nx_ {K : PySem.W.Frag} {G : Gh} {δ : En} {σ : L2.St} {H0 H : Hp} {D : Ends} (h : PoS K W G H0 (.nx δ) D) (R : Rl K G δ σ H0 H) : D.nx σ H := h σ H0 H R (Same.refl _)
theorem ms_nil : PSs X [] (sM X.K W sNil) := PSs_imp pss_nil fun D σ H ⟨G, δ, H0, R, q⟩ => PoS.nx_ q R
theorem ms_cons {st : Stmt} {rest : List Stmt} {f g : SDen} (h1 : PS X st (sM X.K W f)) (h2 : PSs X rest (sM X.K W g)) : PSs X (st :: rest) (sM X.K W (sSeq f g)) :=
  PSs_imp (pss_cons h1 h2) fun D σ H ⟨G, δ, H0, R, q⟩ => ⟨G, δ, H0, R, by
    unfold sSeq at q
    cases e : f δ with
    | nx δ1 =>
      rw [e] at q
      exact fun σ' H0' H' R' s => ⟨G, δ1, H0', R', PoS.up (r := g δ1) q s⟩
    | _ => rw [e] at q; exact q⟩
theorem PoS.bindE {K : PySem.W.Frag} {G : Gh} {σ : L2.St} {H0 : Hp} {r : RE} {k : D → En → RS} {D' : Ends} {Q' : VK} (h : PoS K W G H0 (bindES r k) D')
    (hk : ∀ d δ v H1 H', Rl K G δ σ H1 H' → Rep K H1 v d → PoS K W G H1 (k d δ) D' → Q' v H') : PoE K W G σ H0 r Q' := by
  cases r with
  | ok d δ => exact fun v H1 H' R s p => hk d δ v H1 H' R p (PoS.up h s)
  | rz c δ => exact fun cls dd H1 H' R s x => h cls dd σ H1 H' R s x
  | bad => exact h
theorem PoS.bindT {K : PySem.W.Frag} {G : Gh} {σ : L2.St} {H0 : Hp} {r : RE} {k : Bool → En → RS} {D' : Ends} {Q' : Bool → Hp → Prop} (h : PoS K W G H0 (bindTS r k) D')
    (hk : ∀ b δ H1 H', Rl K G δ σ H1 H' → Same H0 H1 → PoS K W G H1 (k b δ) D' → Q' b H') : PoT K W G σ H0 r Q' := by
  cases r with
  | ok d δ =>
    cases d with
    | bl b => exact ⟨b, rfl, fun H1 H' R s => hk b δ H1 H' R s (PoS.up (r := k b δ) h s)⟩
    | _ => exact absurd h (fun z => z)
  | rz c δ => exact fun cls dd H1 H' R s x => h cls dd σ H1 H' R s x
  | bad => exact h
def sPass : SDen := fun δ => .nx δ
def sBrk : SDen := fun δ => .bk δ
def sCnt : SDen := fun δ => .ct δ
theorem ms_pass : PS X (.Pass pos) (sM X.K W sPass) := PS_imp ps_pass fun D σ H ⟨G, δ, H0, R, q⟩ => PoS.nx_ q R
theorem ms_brk : PS X (.Break pos) (sM X.K W sBrk) := PS_imp ps_break fun D σ H ⟨G, δ, H0, R, q⟩ => q σ H0 H R (Same.refl _)
theorem ms_cnt : PS X (.Continue pos) (sM X.K W sCnt) := PS_imp ps_continue fun D σ H ⟨G, δ, H0, R, q⟩ => q σ H0 H R (Same.refl _)
def sExp (f : Den) : SDen := fun δ => bindES (f δ) fun _ δ1 => .nx δ1
theorem ms_exp {e : Expr} {f : Den} (he : PE X e (tM X.K W f)) (hs : swapsWith e none pos.line X.env = pure false) : PS X (.Expr e pos) (sM X.K W (sExp f)) :=
  PS_imp (ps_expr he hs) fun D σ H ⟨G, δ, H0, R, q⟩ => ⟨G, δ, H0, R, PoS.bindE q fun d δ1 v H1 H' R1 r1 h1 => PoS.nx_ h1 R1⟩
def sRet (f : Den) : SDen := fun δ => bindES (f δ) fun d δ1 => .rt d δ1
theorem ms_ret {e : Expr} {f : Den} (he : PE X e (tM X.K W f)) : PS X (.Return (some e) pos) (sM X.K W (sRet f)) :=
  PS_imp (ps_ret he) fun D σ H ⟨G, δ, H0, R, q⟩ => ⟨G, δ, H0, R, PoS.bindE q fun d δ1 v H1 H' R1 r1 h1 => h1 v σ H1 H' R1 (Same.refl _) r1⟩
def sRetN : SDen := fun δ => .rt .non δ
theorem ms_retN : PS X (.Return none pos) (sM X.K W sRetN) := PS_imp ps_retN fun D σ H ⟨G, δ, H0, R, q⟩ => q .non σ H0 H R (Same.refl _) .non
def sIf (c : Den) (f g : SDen) : SDen := fun δ => bindTS (c δ) fun b δ1 => if b then f δ1 else g δ1
theorem ms_if {c : Expr} {a b : List Stmt} {fc : Den} {f g : SDen} (hc : PT X c (tT X.K W fc)) (ha : PSs X a (sM X.K W f)) (hb : PSs X b (sM X.K W g)) : PS X (.If c a b pos) (sM X.K W (sIf fc f g)) :=
  PS_imp (ps_if hc ha hb) fun D σ H ⟨G, δ, H0, R, q⟩ => ⟨G, δ, H0, R, PoS.bindT q fun b δ1 H1 H' R1 _ h1 => by
    cases b with
    | true => exact ⟨G, δ1, H1, R1, h1⟩
    | false => exact ⟨G, δ1, H1, R1, h1⟩⟩
def sAsg (g : D → En → Option En) (f : Den) : SDen := fun δ => bindES (f δ) fun d δ1 => match g d δ1 with
  | some δ2 => .nx δ2
  | none => .bad
theorem asg_step {K : PySem.W.Frag} {G : Gh} {δ1 : En} {σ : L2.St} {H1 H' : Hp} {d : D} {v : V} {g : D → En → Option En} {vs : List Nat} {D' : Ends} (R1 : Rl K G δ1 σ H1 H') (r1 : Rep K H1 v d)
    (h1 : PoS K W G H1 (match g d δ1 with | some δ2 => .nx δ2 | none => .bad) D') : gM K g vs v σ H' D'.nx := by
  split at h1
  · rename_i δ2 e
    exact ⟨G, δ1, H1, d, δ2, R1, r1, e, fun σ' R' _ _ => PoS.nx_ h1 R'⟩
  · exact h1.elim
theorem ms_asg {tg e : Expr} {f : Den} {g : D → En → Option En} {vs : List Nat} (he : PE X e (tM X.K W f)) (hg : PG X tg (gM X.K g vs)) (hs : swapsWithSole [tg] e pos.line X.env = pure false) (hw : swappedStores [tg] e X.env = pure none)
    (h1 : (assignEach [tg] X.env).map (·.2) = [assign tg X.env]) : PS X (.Assign [tg] e pos) (sM X.K W (sAsg g f)) :=
  PS_imp (ps_asg he hg hs hw h1) fun D σ H ⟨G, δ, H0, R, q⟩ => ⟨G, δ, H0, R, PoS.bindE q fun d δ1 v H1 H' R1 r1 h1 => asg_step R1 r1 h1⟩
/-- slots of no further use are forgotten -/
def fgt1 (δ : En) (i : Nat) : En :=
  match δ[i]? with
  | some (.pi _) => δ
  | _ => δ.set i .no
def fgt (ws : List Nat) (δ : En) : En := ws.foldl fgt1 δ
theorem Rl.fgt1 {K : PySem.W.Frag} {G : Gh} {δ : En} {σ : L2.St} {H0 H : Hp} (R : Rl K G δ σ H0 H) (i : Nat) : Rl K G (fgt1 δ i) σ H0 H := by
  unfold Z.fgt1
  split
  · exact R
  · rename_i np
    refine ⟨R.hs, R.he, R.hf, R.hn, by rw [List.length_set, R.len], fun j s x a b => ?_, fun j k s t a ne e1 e2 o1 o2 f1 f2 => ?_, fun j a hp => ?_⟩
    · by_cases hj : i = j
      · subst hj
        by_cases hl : i < δ.length
        · rw [List.getElem?_set_self hl] at a; cases a; trivial
        · rw [List.getElem?_eq_none (by simpa using hl)] at a; cases a
      · rw [List.getElem?_set_ne hj] at a
        exact R.sl j s x a b
    · have key : ∀ {j : Nat} {s : Sl}, (δ.set i .no)[j]? = some s → isOwn s = true → δ[j]? = some s := fun {j s} e o => by
        by_cases hj : i = j
        · subst hj
          by_cases hl : i < δ.length
          · rw [List.getElem?_set_self hl] at e; cases e; cases o
          · rw [List.getElem?_eq_none (by simpa using hl)] at e; cases e
        · rw [List.getElem?_set_ne hj] at e; exact e
      exact R.dj j k s t a ne (key e1 o1) (key e2 o2) o1 o2 f1 f2
    · obtain ⟨o, e1, e2⟩ := R.pn j a hp
      have hj : i ≠ j := fun z => by subst z; exact np o e1
      exact ⟨o, by rw [List.getElem?_set_ne hj]; exact e1, e2⟩
theorem Rl.fgt {K : PySem.W.Frag} {G : Gh} {σ : L2.St} {H0 H : Hp} : ∀ (ws : List Nat) {δ : En}, Rl K G δ σ H0 H → Rl K G (fgt ws δ) σ H0 H
  | [], _, R => R
  | i :: ws, δ, R => Rl.fgt ws (R.fgt1 i)
/-- while -/
def loopK (ws : List Nat) (r : RS) (k : En → RS) : RS :=
  match r with
  | .nx δ => k (fgt ws δ)
  | .ct δ => k (fgt ws δ)
  | .bk δ => .nx δ
  | .rt d δ => .rt d δ
  | .ro d δ => .ro d δ
  | .rz c δ => .rz c δ
  | .bad => .bad
theorem PoS.loop {K : PySem.W.Frag} {G : Gh} {H0 : Hp} {ws : List Nat} {r : RS} {k : En → RS} {D : Ends} {N : L2.St → Hp → Prop} (h : PoS K W G H0 (loopK ws r k) D)
    (hN : ∀ δ σ H1 H', Rl K G δ σ H1 H' → Same H0 H1 → PoS K W G H1 (k δ) D → N σ H') : PoS K W G H0 r { D with nx := N, ct := N, bk := D.nx } := by
  cases r with
  | nx δ => exact fun σ' H1 H' R s => hN _ σ' H1 H' (R.fgt ws) s (PoS.up (r := k (fgt ws δ)) h s)
  | ct δ => exact fun σ' H1 H' R s => hN _ σ' H1 H' (R.fgt ws) s (PoS.up (r := k (fgt ws δ)) h s)
  | bk δ => exact h
  | rt d δ => exact h
  | ro d δ => exact h
  | rz c δ => exact h
  | bad => exact h
def whileF (ws : List Nat) (c : Den) (b : SDen) : Nat → En → RS
  | 0, _ => .bad
  | n + 1, δ => bindTS (c δ) fun k δ1 => if k then loopK ws (b δ1) (whileF ws c b n) else .nx δ1
def sWhl (ws : List Nat) (n : En → Nat) (c : Den) (b : SDen) : SDen := fun δ => whileF ws c b (n δ) δ
theorem ms_whl {c : Expr} {body : List Stmt} {fc : Den} {fb : SDen} {n : En → Nat} {ws : List Nat} (hp : PassesOwn (model X.prog X.w) X.A X.env X.xe) (hc : PT X c (tT X.K W fc)) (hb : PSs X body (sM X.K W fb)) : PS X (.While c body [] pos) (sM X.K W (sWhl ws n fc fb)) :=
  PS_imp (ps_while hp hc hb) fun D σ H ⟨G, δ, H0, R, q⟩ => by
    refine ⟨fun m σ H => ∃ δ H0, Rl X.K G δ σ H0 H ∧ PoS X.K W G H0 (whileF ws fc fb m δ) D, ⟨n δ, δ, H0, R, q⟩, ?_⟩
    rintro m σ H ⟨δ, H0, R, q⟩
    cases m with
    | zero => exact q.elim
    | succ m =>
      refine ⟨G, δ, H0, R, PoS.bindT (k := fun k δ1 => if k then loopK ws (fb δ1) (whileF ws fc fb m) else .nx δ1) q fun b δ1 H1 H' R1 _ h1 => ?_⟩
      cases b with
      | false => exact PoS.nx_ h1 R1
      | true =>
        rw [if_pos rfl]
        exact ⟨fun σ' H' => ∃ δ H0, Rl X.K G δ σ' H0 H' ∧ PoS X.K W G H0 (whileF ws fc fb m δ) D, fun σ' H' w => ⟨m, Nat.lt_succ_self _, w⟩, G, δ1, H1, R1, PoS.loop h1 fun δ σ H1 H' R' _ q => ⟨δ, H1, R', q⟩⟩
/-- for -/
def forF (ws : List Nat) (g : D → En → Option En) (b : SDen) : List D → En → RS
  | [], δ => .nx δ
  | d :: ds, δ => match g d δ with
    | none => .bad
    | some δ1 => loopK ws (b δ1) (forF ws g b ds)
def sFor (ws : List Nat) (i : En → RI) (g : D → En → Option En) (b : SDen) : SDen := fun δ => match i δ with
  | .ok ds δ1 => forF ws g b ds (fgt ws δ1)
  | .rz c δ => .rz c δ
  | .bad => .bad
theorem ms_for {tg iter : Expr} {body : List Stmt} {fi : En → RI} {g : D → En → Option En} {vs : List Nat} {fb : SDen} {ws : List Nat} (hp : PassesOwn (model X.prog X.w) X.A X.env X.xe) (hc : X.calm = true) (hi : PI X tg iter (tI X.K W fi)) (hg : PG X tg (gM X.K g vs)) (hb : PSs X body (sM X.K W fb))
    (hs : ∀ x, foldedSetIterable iter X.env x = pure x) : PS X (.For tg iter body [] pos) (sM X.K W (sFor ws fi g fb)) :=
  PS_imp (ps_for hp hc hi hg hb hs) fun D σ H ⟨G, δ, H0, R, q⟩ => ⟨G, δ, H0, R, by
    unfold sFor at q
    cases e : fi δ with
    | bad => rw [e] at q; exact q
    | rz c δ1 => rw [e] at q; exact fun cls dd H1 H' R1 s x => q cls dd σ H1 H' R1 s x
    | ok ds δ1 =>
      rw [e] at q
      intro J Hi H' R1 s1 Y
      refine ⟨fun i m σ H => m = ds.length - i ∧ i ≤ ds.length ∧ ∃ δ H0, Rl X.K G δ σ H0 H ∧ Same Hi H0 ∧ PoS X.K W G H0 (forF ws g fb (ds.drop i) δ) D, ⟨_, rfl, Nat.zero_le _, fgt ws δ1, Hi, R1.fgt ws, Same.refl _, PoS.up (r := forF ws g fb ds (fgt ws δ1)) q s1⟩, ?_⟩
      rintro i m σ H ⟨rfl, hi, δ, H0, R, s0, q⟩
      by_cases hlt : i < ds.length
      · refine .inr ⟨Y.go i H (s0.trans R.hs) R.he hlt, fun σ' H' => ∃ δ H0, Rl X.K G δ σ' H0 H' ∧ Same Hi H0 ∧ PoS X.K W G H0 (forF ws g fb (ds.drop (i + 1)) δ) D, fun σ' H' w => ⟨_, by omega, rfl, hlt, w⟩, fun x H' y => ?_⟩
        obtain ⟨d, H1, ed, gr, r⟩ := Y.yld i H x H' H0 s0 R.hs R.he hlt y
        have ec : ds.drop i = d :: ds.drop (i + 1) := by
          rw [List.drop_eq_getElem_cons hlt]
          congr 1
          rw [List.getElem?_eq_getElem hlt] at ed
          exact Option.some.inj ed
        rw [ec] at q
        have R' := R.grow gr
        simp only [forF] at q
        cases eg : g d δ with
        | none => rw [eg] at q; exact q.elim
        | some δ2 =>
          rw [eg] at q
          have q : PoS X.K W G H0 (loopK ws (fb δ2) (forF ws g fb (ds.drop (i + 1)))) D := q
          exact ⟨G, δ, H1, d, δ2, R', r, eg, fun σ' R2 _ _ => ⟨G, δ2, H1, R2, PoS.loop (q.up gr.h0) fun δ3 σ3 H3 H'' R3 s3 q3 => ⟨δ3, H3, R3, s0.trans (gr.h0.trans s3), q3⟩⟩⟩
      · have ei : i = ds.length := by omega
        refine .inl ⟨Y.stop i H (s0.trans R.hs) R.he (by omega), ?_⟩
        rw [ei, List.drop_length] at q
        exact PoS.nx_ q R⟩
end
end Z

namespace Z
open PySem PySem.Spec PyProof.Rows L2
/-! ### comprehensions -/
def wipeD (δ : En) : List Nat → En
  | [] => δ
  | v :: vs => (wipeD δ vs).set v .no
def okWipe (δ : En) : List Nat → Bool
  | [] => true
  | v :: vs => (match δ[v]? with
    | some .no => true
    | some (.va _) => true
    | _ => false) && okWipe δ vs
def restore (δ1 δ2 : En) : List Nat → En
  | [] => δ2
  | v :: vs => match δ1[v]? with
    | some s => (restore δ1 δ2 vs).set v s
    | none => restore δ1 δ2 vs
theorem wipeD_len (δ : En) : ∀ vs : List Nat, (wipeD δ vs).length = δ.length
  | [] => rfl
  | v :: vs => by unfold wipeD; rw [List.length_set, wipeD_len δ vs]
theorem restore_len (δ1 δ2 : En) : ∀ vs : List Nat, (restore δ1 δ2 vs).length = δ2.length
  | [] => rfl
  | v :: vs => by
    unfold restore
    split
    · rw [List.length_set, restore_len δ1 δ2 vs]
    · exact restore_len δ1 δ2 vs
theorem restore_out {δ1 δ2 : En} {i : Nat} : ∀ {vs : List Nat}, i ∉ vs → (restore δ1 δ2 vs)[i]? = δ2[i]?
  | [], _ => rfl
  | v :: vs, h => by
    unfold restore
    have h1 : v ≠ i := fun z => h (by rw [z]; exact List.mem_cons_self)
    have h2 : i ∉ vs := fun z => h (List.mem_cons_of_mem _ z)
    split
    · rw [List.getElem?_set_ne h1, restore_out h2]
    · exact restore_out h2
theorem restore_in {δ1 δ2 : En} (hl : δ1.length = δ2.length) {i : Nat} : ∀ {vs : List Nat}, i ∈ vs → (restore δ1 δ2 vs)[i]? = δ1[i]?
  | [], h => by cases h
  | v :: vs, h => by
    unfold restore
    by_cases hv : v = i
    · subst hv
      cases e : δ1[v]? with
      | none =>
        have : δ1.length ≤ v := List.getElem?_eq_none_iff.mp e
        exact List.getElem?_eq_none (by rw [restore_len]; omega)
      | some s =>
        have : v < δ1.length := (List.getElem?_eq_some_iff.mp e).1
        show ((restore δ1 δ2 vs).set v s)[v]? = some s
        rw [List.getElem?_set_self (by rw [restore_len]; omega)]
    · have h2 : i ∈ vs := by
        rcases List.mem_cons.mp h with z | z
        · exact absurd z.symm hv
        · exact z
      split
      · rw [List.getElem?_set_ne hv, restore_in hl h2]
      · exact restore_in hl h2
theorem wipe_out {σ : L2.St} {i : Nat} : ∀ {vs : List Nat}, i ∉ vs → (wipe σ vs)[i]? = σ[i]?
  | [], _ => rfl
  | v :: vs, h => by
    unfold wipe
    rw [List.getElem?_set_ne (fun z => h (by rw [z]; exact List.mem_cons_self)), wipe_out fun z => h (List.mem_cons_of_mem _ z)]
theorem wipe_in {σ : L2.St} {i : Nat} : ∀ {vs : List Nat}, i ∈ vs → (wipe σ vs)[i]? = (σ[i]?).map fun _ => none
  | [], h => by cases h
  | v :: vs, h => by
    unfold wipe
    by_cases hv : v = i
    · subst hv
      by_cases hl : v < σ.length
      · rw [List.getElem?_set_self (by rw [wipe_length]; exact hl), List.getElem?_eq_getElem hl]
        rfl
      · rw [List.getElem?_eq_none (by rw [List.length_set, wipe_length]; omega), List.getElem?_eq_none (by omega)]
        rfl
    · rw [List.getElem?_set_ne hv]
      refine wipe_in ?_
      rcases List.mem_cons.mp h with z | z
      · exact absurd z.symm hv
      · exact z
theorem wipe_eq {σ σ' : L2.St} {vs : List Nat} (hl : σ'.length = σ.length) (h : ∀ j, j ∉ vs → σ'[j]? = σ[j]?) : wipe σ' vs = wipe σ vs := by
  refine List.ext_getElem? fun i => ?_
  by_cases hi : i ∈ vs
  · rw [wipe_in hi, wipe_in hi]
    by_cases hl' : i < σ.length
    · rw [List.getElem?_eq_getElem hl', List.getElem?_eq_getElem (by rw [hl]; exact hl')]
      rfl
    · rw [List.getElem?_eq_none (by omega), List.getElem?_eq_none (by omega)]
  · rw [wipe_out hi, wipe_out hi, h i hi]
theorem okWipe_at {δ : En} : ∀ {vs : List Nat}, okWipe δ vs = true → ∀ v ∈ vs, ∀ s, δ[v]? = some s → isOwn s = false
  | [], _, v, h, _, _ => by cases h
  | w :: vs, h, v, hv, s, e => by
    unfold okWipe at h
    rw [Bool.and_eq_true] at h
    rcases List.mem_cons.mp hv with z | z
    · subst z
      rw [e] at h
      cases s with
      | no => rfl
      | va d => rfl
      | ow o => exact absurd h.1 (fun z => by cases z)
      | pi o => exact absurd h.1 (fun z => by cases z)
    · exact okWipe_at h.2 v z s e
section
variable {K : PySem.W.Frag} {G : Gh} {δ δ1 δ2 : En} {σ : L2.St} {H0 H H01 H1 : Hp}
theorem Rl.set_no {i : Nat} (R : Rl K G δ σ H0 H) (np : ∀ a, (i, a) ∉ G.pins) : Rl K G (δ.set i .no) (σ.set i none) H0 H where
  hs := R.hs
  he := R.he
  hf := R.hf
  hn := R.hn
  len := by rw [List.length_set, List.length_set, R.len]
  sl := fun j s x a b => by
    by_cases hj : i = j
    · subst hj
      by_cases hl : i < δ.length
      · rw [List.getElem?_set_self hl] at a; cases a; trivial
      · rw [List.getElem?_eq_none (by simpa using hl)] at a; cases a
    · rw [List.getElem?_set_ne hj] at a b
      exact R.sl j s x a b
  dj := fun j k s t a ne e1 e2 o1 o2 f1 f2 => by
    have hj : i ≠ j := fun z => by
      subst z
      by_cases hl : i < δ.length
      · rw [List.getElem?_set_self hl] at e1; cases e1; cases o1
      · rw [List.getElem?_eq_none (by simpa using hl)] at e1; cases e1
    have hk : i ≠ k := fun z => by
      subst z
      by_cases hl : i < δ.length
      · rw [List.getElem?_set_self hl] at e2; cases e2; cases o2
      · rw [List.getElem?_eq_none (by simpa using hl)] at e2; cases e2
    rw [List.getElem?_set_ne hj] at e1 f1
    rw [List.getElem?_set_ne hk] at e2 f2
    exact R.dj j k s t a ne e1 e2 o1 o2 f1 f2
  pn := fun j a hp => by
    obtain ⟨o, e1, e2⟩ := R.pn j a hp
    have hj : i ≠ j := fun z => np a (z ▸ hp)
    exact ⟨o, by rw [List.getElem?_set_ne hj]; exact e1, by rw [List.getElem?_set_ne hj]; exact e2⟩
theorem Rl.wipe (R : Rl K G δ σ H0 H) : ∀ {vs : List Nat}, (∀ v ∈ vs, ∀ a, (v, a) ∉ G.pins) → Rl K G (wipeD δ vs) (L2.wipe σ vs) H0 H
  | [], _ => R
  | v :: vs, h => (Rl.wipe R fun w hw => h w (List.mem_cons_of_mem _ hw)).set_no (h v List.mem_cons_self)
theorem Rl.npin {i : Nat} (R : Rl K G δ σ H0 H) (h : ∀ s, δ[i]? = some s → isOwn s = false) : ∀ a, (i, a) ∉ G.pins := fun a hp => by
  obtain ⟨o, e, _⟩ := R.pn i a hp
  have := h _ e
  cases this
theorem Rl.restore {vs : List Nat} (R1 : Rl K G δ1 σ H01 H1) (R2 : Rl K G δ2 (L2.wipe σ vs) H0 H) (s : Same H01 H0) (ok : okWipe δ1 vs = true) : Rl K G (restore δ1 δ2 vs) σ H0 H := by
  have l2 : δ2.length = σ.length := by rw [R2.len, wipe_length]
  have hl : δ1.length = δ2.length := by rw [R1.len, l2]
  have nin : ∀ {j : Nat} {s : Sl}, (Z.restore δ1 δ2 vs)[j]? = some s → isOwn s = true → j ∉ vs := fun {j s} e o hj => by
    rw [restore_in hl hj] at e
    have := okWipe_at ok j hj s e
    rw [o] at this
    cases this
  refine ⟨R2.hs, R2.he, R2.hf, R2.hn, by rw [restore_len, l2], fun i t x e1 e2 => ?_, fun j k t u a ne e1 e2 o1 o2 f1 f2 => ?_, fun j a hp => ?_⟩
  · by_cases hi : i ∈ vs
    · rw [restore_in hl hi] at e1
      have q := R1.sl i t x e1 e2
      have no := okWipe_at ok i hi t e1
      cases t with
      | no => trivial
      | va d => obtain ⟨v, e, r⟩ := q; exact ⟨v, e, r.mono s⟩
      | ow o => cases no
      | pi o => cases no
    · rw [restore_out hi] at e1
      exact R2.sl i t x e1 (by rw [wipe_out hi]; exact e2)
  · have n1 := nin e1 o1
    have n2 := nin e2 o2
    rw [restore_out n1] at e1
    rw [restore_out n2] at e2
    exact R2.dj j k t u a ne e1 e2 o1 o2 (by rw [wipe_out n1]; exact f1) (by rw [wipe_out n2]; exact f2)
  · obtain ⟨o, e1, e2⟩ := R2.pn j a hp
    have hj : j ∉ vs := fun z => by
      rw [wipe_in z] at e2
      cases q : σ[j]? with
      | none => rw [q] at e2; cases e2
      | some w => rw [q] at e2; cases e2
    exact ⟨o, by rw [restore_out hj]; exact e1, by rw [wipe_out hj] at e2; exact e2⟩
/-- an object that stays as it is -/
abbrev Gh.hide (G : Gh) (a : Addr) (u : HO) : Gh := { G with He := upd G.He a u }
def NotOwn (δ : En) (σ : L2.St) (a : Addr) : Prop := ∀ (j : Nat) (s : Sl), δ[j]? = some s → isOwn s = true → σ[j]? ≠ some (some (V.ref a))
theorem Rl.hide {a : Addr} {u : HO} (R : Rl K G δ σ H0 H) (hu : H a = some u) (n0 : H0 a = none) (nw : NotOwn δ σ a) : Rl K (G.hide a u) δ σ H0 H := by
  refine ⟨R.hs, fun b w e => ?_, R.hf, fun b e => ?_, R.len, fun j s x h1 h2 => ?_, R.dj, R.pn⟩
  · by_cases hb : b = a
    · subst hb
      have e : upd G.He b u b = some w := e
      rw [upd_same] at e; cases e; exact hu
    · have e : upd G.He a u b = some w := e
      rw [upd_ne hb] at e; exact R.he b w e
  · by_cases hb : b = a
    · subst hb
      rw [n0]
      exact (R.hf.free n0).symm
    · have e : upd G.He a u b ≠ none := e
      rw [upd_ne hb] at e; exact R.hn b e
  · have q := R.sl j s x h1 h2
    have nea : ∀ c, isOwn s = true → x = some (.ref c) → c ≠ a := fun c ho hx z => by
      subst hx z
      exact nw j s h1 ho h2
    cases s with
    | no => trivial
    | va d => exact q
    | ow o => obtain ⟨c, e, n, f, w⟩ := q; exact ⟨c, e, n, by show upd G.He a u c = none; rw [upd_ne (nea c rfl e)]; exact f, w⟩
    | pi o => obtain ⟨c, e, n, f, w, p⟩ := q; exact ⟨c, e, n, by show upd G.He a u c = none; rw [upd_ne (nea c rfl e)]; exact f, w, p⟩
theorem Rl.unhide {a : Addr} {u : HO} (R : Rl K (G.hide a u) δ σ H0 H) (ne : G.He a = none) (nf : G.Hf a = none) : Rl K G δ σ H0 H ∧ H a = some u ∧ H0 a = none ∧ NotOwn δ σ a := by
  have hu : H a = some u := R.he a u upd_same
  have n0 : H0 a = none := by
    have := R.hn a (by show upd G.He a u a ≠ none; rw [upd_same]; simp)
    rw [this]; exact nf
  have neq : ∀ c : Addr, upd G.He a u c = none → c ≠ a := fun c e z => by rw [z, upd_same] at e; cases e
  refine ⟨⟨R.hs, fun b w e => R.he b w (by show upd G.He a u b = some w; rw [upd_ne (ne_of_none e ne)]; exact e), R.hf, fun b e => R.hn b (by
      have hb : b ≠ a := fun z => e (by rw [z]; exact ne)
      show upd G.He a u b ≠ none
      rw [upd_ne hb]; exact e), R.len, fun j s x h1 h2 => ?_, R.dj, R.pn⟩, hu, n0, fun j s e o q => ?_⟩
  · have q := R.sl j s x h1 h2
    cases s with
    | no => trivial
    | va d => exact q
    | ow o => obtain ⟨c, e, n, f, w⟩ := q; exact ⟨c, e, n, by have f : upd G.He a u c = none := f; rw [upd_ne (neq c f)] at f; exact f, w⟩
    | pi o => obtain ⟨c, e, n, f, w, p⟩ := q; exact ⟨c, e, n, by have f : upd G.He a u c = none := f; rw [upd_ne (neq c f)] at f; exact f, w, p⟩
  · have w := R.sl j s _ e q
    cases s with
    | no => cases o
    | va d => cases o
    | ow o => obtain ⟨c, e, n, f, w⟩ := w; cases e; exact neq _ f rfl
    | pi o => obtain ⟨c, e, n, f, w, p⟩ := w; cases e; exact neq _ f rfl
/-- an object that is nobody's is changed -/
theorem Rl.poke {a : Addr} {u : HO} (R : Rl K G δ σ H0 H) (n0 : H0 a = none) (ne : G.He a = none) (nw : NotOwn δ σ a) : Rl K G δ σ H0 (upd H a u) := by
  refine ⟨fun b w e => by rw [upd_ne (ne_of_none e n0)]; exact R.hs b w e, fun b w e => by rw [upd_ne (ne_of_none e ne)]; exact R.he b w e, R.hf, R.hn, R.len, fun j s x h1 h2 => ?_, R.dj, R.pn⟩
  have q := R.sl j s x h1 h2
  have nea : ∀ c, isOwn s = true → x = some (.ref c) → c ≠ a := fun c ho hx z => by
    subst hx z
    exact nw j s h1 ho h2
  cases s with
  | no => trivial
  | va d => exact q
  | ow o => obtain ⟨c, e, n, f, w⟩ := q; exact ⟨c, e, n, f, w.mono (Same.refl _) (upd_ne (nea c rfl e))⟩
  | pi o => obtain ⟨c, e, n, f, w, p⟩ := q; exact ⟨c, e, n, f, w.mono (Same.refl _) (upd_ne (nea c rfl e)), p⟩
theorem NotOwn.wipe {a : Addr} {vs : List Nat} (h : NotOwn δ σ a) : NotOwn (wipeD δ vs) (L2.wipe σ vs) a := by
  have key : ∀ vs : List Nat, NotOwn (wipeD δ vs) (L2.wipe σ vs) a := fun vs => by
    induction vs with
    | nil => exact h
    | cons v vs ih =>
      intro j s e o q
      by_cases hv : v = j
      · subst hv
        have e : ((wipeD δ vs).set v .no)[v]? = some s := e
        by_cases hl : v < (wipeD δ vs).length
        · rw [List.getElem?_set_self hl] at e; cases e; cases o
        · rw [List.getElem?_eq_none (by simpa using hl)] at e; cases e
      · have e : ((wipeD δ vs).set v .no)[j]? = some s := e
        have q : ((L2.wipe σ vs).set v none)[j]? = some (some (V.ref a)) := q
        rw [List.getElem?_set_ne hv] at e q
        exact ih j s e o q
  exact key vs
end
/-- the test of a comprehension -/
def tstO (t : Option Den) (δ : En) : Option (Bool × En) :=
  match t with
  | none => some (true, δ)
  | some f => match f δ with
    | .ok (.bl b) δ1 => some (b, δ1)
    | _ => none
def compF (g : D → En → Option En) (t : Option Den) (f : Den) (vs : List Nat) : List D → En → Option (List D × En)
  | [], δ => some ([], δ)
  | d :: ds, δ => (g d δ).bind fun δ1 => (tstO t δ1).bind fun p =>
    if p.1 then (match f p.2 with
      | .ok e δ3 => (compF g t f vs ds (wipeD δ3 vs)).map fun q => (e :: q.1, q.2)
      | _ => none)
    else compF g t f vs ds (wipeD p.2 vs)
def fComp (i : En → RI) (g : D → En → Option En) (t : Option Den) (f : Den) (vs : List Nat) : FDen := fun δ => match i δ with
  | .ok ds δ1 => if okWipe δ1 vs && decide (ds.length ≤ 1000000) then (match compF g t f vs ds (wipeD δ1 vs) with
    | some (es, δ2) => .ok (.lst es) (restore δ1 δ2 vs)
    | none => .bad) else .bad
  | .rz c δ => .rz c δ
  | .bad => .bad
def tO (K : PySem.W.Frag) (W : Wi) (t : Option Den) : TT := match t with
  | none => tYes
  | some f => tT K W f
abbrev Wi.none (ct : Nat → Addr) : Wi := ⟨fun _ _ _ _ => False, ct⟩
/-- the reading of a comprehension, from what it means -/
theorem comp_read' {K : PySem.W.Frag} {W : Wi} {fi : En → RI} {g : D → En → Option En} {t : Option Den} {f : Den} {vs vg : List Nat} (hv : ∀ j ∈ vg, j ∈ vs) {G : Gh} {δ : En} {H0 : Hp} {σ : L2.St} {H : Hp} {Q : VK} (R : Rl K G δ σ H0 H) (q : PoF K W G σ H0 (fComp fi g t f vs δ) Q) :
    PoI K W G σ H0 (fi δ) fun J H1 => ∀ D, H1 D = none → ∃ W' : Nat → Nat → Hp → Prop, (∃ m, W' 0 m (upd H1 D (.lst []))) ∧ ∀ i m H, W' i m H →
      (J.stop i H ∧ Q (.ref D) H) ∨ (J.go i H ∧ ∃ Nx : Hp → Prop, (∀ H', Nx H' → ∃ m', m' < m ∧ W' (i + 1) m' H') ∧ ∀ x H', J.yld i H x H' → gM K g vg x (wipe σ vs) H' fun σ2 H2 => wipe σ2 vs = wipe σ vs ∧ tO K (Wi.none W.ct) t σ2 H2 fun b H3 =>
        if b = true then tM K (Wi.none W.ct) f σ2 H3 fun y H4 => ∃ acc, H4 D = some (.lst acc) ∧ acc.length < sizeLine ∧ Nx (upd H4 D (.lst (acc ++ [y]))) else Nx H3) := by
  unfold fComp at q
  cases e : fi δ with
  | bad => rw [e] at q; exact q
  | rz c δ1 => rw [e] at q; exact q
  | ok ds δ1 =>
    rw [e] at q
    have q : PoF K W G σ H0 (if okWipe δ1 vs && decide (ds.length ≤ 1000000) then (match compF g t f vs ds (wipeD δ1 vs) with
      | some (es, δ2) => .ok (.lst es) (restore δ1 δ2 vs)
      | none => .bad) else .bad) Q := q
    split at q
    · rename_i c
      rw [Bool.and_eq_true, decide_eq_true_eq] at c
      obtain ⟨ok, hlen⟩ := c
      cases ec : compF g t f vs ds (wipeD δ1 vs) with
      | none => rw [ec] at q; exact q.elim
      | some p =>
        obtain ⟨es, δe⟩ := p
        rw [ec] at q
        intro J Hi H1 R1 s1 Y D hD
        have npin : ∀ v ∈ vs, ∀ a, (v, a) ∉ G.pins := fun v hv => R1.npin fun s es => okWipe_at ok v hv s es
        have nD0 : Hi D = none := R1.hs.free hD
        have nDe : G.He D = none := R1.he_none hD
        have nDf : G.Hf D = none := R1.hf.free nD0
        refine ⟨fun i m H => m = ds.length - i ∧ i ≤ ds.length ∧ ∃ δ H0 acc acds rest, Rl K G δ (wipe σ vs) H0 H ∧ Same Hi H0 ∧ H0 D = none ∧ NotOwn δ (wipe σ vs) D ∧ H D = some (.lst acc) ∧ Reps K H0 acc acds ∧ acds.length ≤ i ∧
          compF g t f vs (ds.drop i) δ = some (rest, δe) ∧ acds ++ rest = es, ?_, ?_⟩
        · refine ⟨_, rfl, Nat.zero_le _, wipeD δ1 vs, Hi, [], [], es, (R1.grow (Gr.lay R1.hs hD)).wipe npin, Same.refl _, nD0, ?_, upd_same, .nil, Nat.le_refl _, ec, rfl⟩
          exact NotOwn.wipe (R1.own_ne hD)
        · rintro i m H ⟨rfl, hi, δ, H0, acc, acds, rest, R, s0, n0, nw, hacc, rs, hl, hc, he⟩
          by_cases hlt : i < ds.length
          · refine .inr ⟨Y.go i H (s0.trans R.hs) R.he hlt, fun H' => ∃ δ H0 acc acds rest, Rl K G δ (wipe σ vs) H0 H' ∧ Same Hi H0 ∧ H0 D = none ∧ NotOwn δ (wipe σ vs) D ∧ H' D = some (.lst acc) ∧ Reps K H0 acc acds ∧ acds.length ≤ i + 1 ∧
              compF g t f vs (ds.drop (i + 1)) δ = some (rest, δe) ∧ acds ++ rest = es, fun H' w => ⟨_, by omega, rfl, hlt, w⟩, fun x H' y => ?_⟩
            obtain ⟨d, H2, ed, gr, r⟩ := Y.yld i H x H' H0 s0 R.hs R.he hlt y
            have ed' : ds.drop i = d :: ds.drop (i + 1) := by
              rw [List.drop_eq_getElem_cons hlt]
              congr 1
              rw [List.getElem?_eq_getElem hlt] at ed
              exact Option.some.inj ed
            rw [ed'] at hc
            simp only [compF] at hc
            cases eg : g d δ with
            | none => rw [eg] at hc; cases hc
            | some δ2 =>
              rw [eg] at hc
              have hc : (tstO t δ2).bind (fun p =>
                if p.1 then (match f p.2 with
                  | .ok e δ3 => (compF g t f vs (ds.drop (i + 1)) (wipeD δ3 vs)).map fun q => (e :: q.1, q.2)
                  | _ => none)
                else compF g t f vs (ds.drop (i + 1)) (wipeD p.2 vs)) = some (rest, δe) := hc
              have R2 := R.grow gr
              have n2 : H2 D = none := by rw [gr.hn D (by rw [hacc]; simp)]; exact n0
              have hacc2 : H' D = some (.lst acc) := gr.hs _ _ hacc
              have R2h := R2.hide hacc2 n2 nw
              refine ⟨G.hide D (.lst acc), δ, H2, d, δ2, R2h, r, eg, fun σ' R3 ks kl => ?_⟩
              have hw : wipe σ' vs = wipe σ vs := wipe_eq (by rw [kl, wipe_length]) fun j hj => (ks j fun z => hj (hv j z)).trans (wipe_out hj)
              refine ⟨hw, ?_⟩
              have step : ∀ (b : Bool) (δ3 : En) (H3 H'' : Hp), Rl K (G.hide D (.lst acc)) δ3 σ' H3 H'' → Same H2 H3 → (if b then (match f δ3 with
                  | .ok e δ3 => (compF g t f vs (ds.drop (i + 1)) (wipeD δ3 vs)).map fun q => (e :: q.1, q.2)
                  | _ => none)
                else compF g t f vs (ds.drop (i + 1)) (wipeD δ3 vs)) = some (rest, δe) →
                if b = true then tM K (Wi.none W.ct) f σ' H'' (fun y H4 => ∃ acc, H4 D = some (.lst acc) ∧ acc.length < sizeLine ∧ (∃ δ H0 acc' acds rest, Rl K G δ (wipe σ vs) H0 (upd H4 D (.lst (acc ++ [y]))) ∧ Same Hi H0 ∧ H0 D = none ∧ NotOwn δ (wipe σ vs) D ∧ (upd H4 D (.lst (acc ++ [y]))) D = some (.lst acc') ∧ Reps K H0 acc' acds ∧ acds.length ≤ i + 1 ∧
                  compF g t f vs (ds.drop (i + 1)) δ = some (rest, δe) ∧ acds ++ rest = es)) else ∃ δ H0 acc acds rest, Rl K G δ (wipe σ vs) H0 H'' ∧ Same Hi H0 ∧ H0 D = none ∧ NotOwn δ (wipe σ vs) D ∧ H'' D = some (.lst acc) ∧ Reps K H0 acc acds ∧ acds.length ≤ i + 1 ∧
                  compF g t f vs (ds.drop (i + 1)) δ = some (rest, δe) ∧ acds ++ rest = es := by
                intro b δ3 H3 H'' R4 s3 hc
                cases b with
                | false =>
                  obtain ⟨R5, hu, n3, nw3⟩ := R4.unhide nDe nDf
                  show ∃ δ H0 acc acds rest, _
                  exact ⟨wipeD δ3 vs, H3, acc, acds, rest, by rw [← hw]; exact R5.wipe npin, s0.trans (gr.h0.trans s3), n3, by rw [← hw]; exact NotOwn.wipe nw3, hu, rs.mono (gr.h0.trans s3), by omega, hc, he⟩
                | true =>
                  show tM K (Wi.none W.ct) f σ' H'' _
                  have hc : (match f δ3 with
                    | .ok e δ3 => (compF g t f vs (ds.drop (i + 1)) (wipeD δ3 vs)).map fun q => (e :: q.1, q.2)
                    | _ => none) = some (rest, δe) := hc
                  refine ⟨_, δ3, H3, R4, ?_⟩
                  cases ef : f δ3 with
                  | rz c δ4 => rw [ef] at hc; cases hc
                  | bad => rw [ef] at hc; cases hc
                  | ok e1 δ4 =>
                    rw [ef] at hc
                    have hc : (compF g t f vs (ds.drop (i + 1)) (wipeD δ4 vs)).map (fun q => (e1 :: q.1, q.2)) = some (rest, δe) := hc
                    cases ec2 : compF g t f vs (ds.drop (i + 1)) (wipeD δ4 vs) with
                    | none => rw [ec2] at hc; cases hc
                    | some q2 =>
                      rw [ec2] at hc
                      cases hc
                      intro y H5 H6 R6 s6 r6
                      obtain ⟨R7, hu, n7, nw7⟩ := R6.unhide nDe nDf
                      refine ⟨acc, hu, ?_, wipeD δ4 vs, H5, acc ++ [y], acds ++ [e1], q2.1, ?_, s0.trans (gr.h0.trans (s3.trans s6)), n7, by rw [← hw]; exact NotOwn.wipe nw7, upd_same, (rs.mono (gr.h0.trans (s3.trans s6))).append (.cons r6 .nil), ?_, ec2, ?_⟩
                      · rw [rs.length]
                        exact Nat.lt_of_lt_of_le (show acds.length < 1000001 by omega) (by decide)
                      · rw [← hw]
                        exact (R7.poke n7 nDe nw7).wipe npin
                      · rw [List.length_append, List.length_singleton]; omega
                      · rw [List.append_assoc]; exact he
              cases t with
              | none => exact step true δ2 H2 H' R3 (Same.refl _) hc
              | some ft =>
                refine ⟨_, δ2, H2, R3, ?_⟩
                have hc : (tstO (some ft) δ2).bind (fun p => if p.1 then (match f p.2 with
                  | .ok e δ3 => (compF g (some ft) f vs (ds.drop (i + 1)) (wipeD δ3 vs)).map fun q => (e :: q.1, q.2)
                  | _ => none) else compF g (some ft) f vs (ds.drop (i + 1)) (wipeD p.2 vs)) = some (rest, δe) := hc
                simp only [tstO] at hc
                cases et : ft δ2 with
                | rz c δ4 => rw [et] at hc; cases hc
                | bad => rw [et] at hc; cases hc
                | ok d3 δ3 =>
                  rw [et] at hc
                  cases d3 with
                  | bl b => exact ⟨b, rfl, fun H3 H'' R4 s4 => step b δ3 H3 H'' R4 s4 hc⟩
                  | _ => cases hc
          · have ei : i = ds.length := by omega
            refine .inl ⟨Y.stop i H (s0.trans R.hs) R.he (by omega), ?_⟩
            rw [ei, List.drop_length] at hc
            have hc : some (([] : List Z.D), δ) = some (rest, δe) := hc
            cases hc
            rw [List.append_nil] at he
            subst he
            have R' := Rl.restore R1 R s0 ok
            refine q D H0 H R' (s1.trans s0) n0 nDe ⟨acc, hacc, rs⟩ fun j s ej oj hj => ?_
            have hl2 : δ1.length = δe.length := by rw [R1.len, R.len, wipe_length]
            by_cases hjv : j ∈ vs
            · rw [restore_in hl2 hjv] at ej
              have := okWipe_at ok j hjv s ej
              rw [oj] at this
              cases this
            · rw [restore_out hjv] at ej
              exact nw j s ej oj (by rw [wipe_out hjv]; exact hj)
    · exact q.elim
theorem comp_read {K : PySem.W.Frag} {W : Wi} {fi : En → RI} {g : D → En → Option En} {t : Option Den} {f : Den} {vs vg : List Nat} (hv : ∀ j ∈ vg, j ∈ vs) {σ : L2.St} {H : Hp} {Q : VK} (h : tF K W (fComp fi g t f vs) σ H Q) :
    tLc (tI K W fi) (gM K g vg) (tO K (Wi.none W.ct) t) (tM K (Wi.none W.ct) f) vs σ H Q := by
  obtain ⟨G, δ, H0, R, q⟩ := h
  exact ⟨G, δ, H0, R, comp_read' hv R q⟩
/-! ### a comprehension over a list that one owns, which stays one's own -/
def tIB (K : PySem.W.Frag) (i : Nat) : TI := fun σ H R => ∃ a vs, σ[i]? = some (some (V.ref a)) ∧ H a = some (.lst vs) ∧ R (Itl K a) H
theorem pi_own {X : Cx} {tg e : Expr} {i : Nat} (h : PE X e (tVar i)) : PI X tg e (tIB X.K i) :=
  PI_imp (pi_list h) fun σ H R ⟨a, vs, e, hv, q⟩ => ⟨_, e, a, rfl, ⟨vs, .inl (.inl hv)⟩, q⟩
def ownBK (s : Option Sl) (i : Nat) (ds : List D) (o : O) (δ2 : En) : RF := match s with
  | some .no => .ok o (δ2.set i (.ow (.lst ds)))
  | _ => .bad
def ownB (i : Nat) (ds : List D) : RF → RF
  | .ok o δ2 => ownBK δ2[i]? i ds o δ2
  | _ => .bad
def iOk (ds : List D) : En → RI := fun δ => .ok ds δ
def fCompB (i : Nat) (g : D → En → Option En) (t : Option Den) (f : Den) (vs : List Nat) : FDen := fun δ => match δ[i]? with
  | some (.ow (.lst ds)) => ownB i ds (fComp (iOk ds) g t f vs (δ.set i .no))
  | _ => fComp (iSeq (dVar i)) g t f vs δ
theorem Rl.lose {K : PySem.W.Frag} {G : Gh} {δ : En} {σ : L2.St} {H0 H : Hp} {i : Nat} (R : Rl K G δ σ H0 H) (np : ∀ a, (i, a) ∉ G.pins) : Rl K G (δ.set i .no) σ H0 H where
  hs := R.hs
  he := R.he
  hf := R.hf
  hn := R.hn
  len := by rw [List.length_set, R.len]
  sl := fun j s x a b => by
    by_cases hj : i = j
    · subst hj
      by_cases hl : i < δ.length
      · rw [List.getElem?_set_self hl] at a; cases a; trivial
      · rw [List.getElem?_eq_none (by simpa using hl)] at a; cases a
    · rw [List.getElem?_set_ne hj] at a
      exact R.sl j s x a b
  dj := fun j k s t a ne e1 e2 o1 o2 f1 f2 => by
    have hj : i ≠ j := fun z => by
      subst z
      by_cases hl : i < δ.length
      · rw [List.getElem?_set_self hl] at e1; cases e1; cases o1
      · rw [List.getElem?_eq_none (by simpa using hl)] at e1; cases e1
    have hk : i ≠ k := fun z => by
      subst z
      by_cases hl : i < δ.length
      · rw [List.getElem?_set_self hl] at e2; cases e2; cases o2
      · rw [List.getElem?_eq_none (by simpa using hl)] at e2; cases e2
    rw [List.getElem?_set_ne hj] at e1
    rw [List.getElem?_set_ne hk] at e2
    exact R.dj j k s t a ne e1 e2 o1 o2 f1 f2
  pn := fun j a hp => by
    obtain ⟨o, e1, e2⟩ := R.pn j a hp
    have hj : i ≠ j := fun z => np a (z ▸ hp)
    exact ⟨o, by rw [List.getElem?_set_ne hj]; exact e1, e2⟩
theorem comp_readB {K : PySem.W.Frag} {W : Wi} {i : Nat} {g : D → En → Option En} {t : Option Den} {f : Den} {vs vg : List Nat} (hv : ∀ j ∈ vg, j ∈ vs) {σ : L2.St} {H : Hp} {Q : VK} (h : tF K W (fCompB i g t f vs) σ H Q) :
    tLc (fun σ H R => tI K W (iSeq (dVar i)) σ H R ∨ tIB K i σ H R) (gM K g vg) (tO K (Wi.none W.ct) t) (tM K (Wi.none W.ct) f) vs σ H Q := by
  obtain ⟨G, δ, H0, R, q⟩ := h
  unfold fCompB at q
  split at q
  · rename_i ds hi
    have hil : i < σ.length := by rw [← R.len]; exact (List.getElem?_eq_some_iff.mp hi).1
    obtain ⟨a, hσ', n0, ne, ws, hw, rs⟩ := R.sl i _ _ hi (List.getElem?_eq_getElem hil)
    have hσ : σ[i]? = some (some (V.ref a)) := by rw [List.getElem?_eq_getElem hil, hσ']
    have nf : G.Hf a = none := R.hf.free n0
    have np : ∀ b, (i, b) ∉ G.pins := fun b hp => by
      obtain ⟨o, e, _⟩ := R.pn i b hp
      rw [hi] at e; cases e
    have R1 := R.lose np
    have nw : NotOwn (δ.set i .no) σ a := fun j s e o z => by
      have hj : i ≠ j := fun y => by
        subst y
        by_cases hl : i < δ.length
        · rw [List.getElem?_set_self hl] at e; cases e; cases o
        · rw [List.getElem?_eq_none (by simpa using hl)] at e; cases e
      rw [List.getElem?_set_ne hj] at e
      exact R.dj i j _ s a hj hi e rfl o hσ z
    have R2 := R1.hide hw n0 nw
    refine .inr ⟨a, ws, hσ, hw, ?_⟩
    refine comp_read' (fi := iOk ds) hv R2 (Q := Q) ?_ (Itl K a) H0 H R2 (Same.refl _) ?_
    · cases ef : fComp (iOk ds) g t f vs (δ.set i .no) with
      | bad => rw [ef] at q; exact q.elim
      | rz c δ2 => rw [ef] at q; exact q.elim
      | ok o δ2 =>
        rw [ef] at q
        have q : PoF K W G σ H0 (ownBK δ2[i]? i ds o δ2) Q := q
        cases e2 : δ2[i]? with
        | none => rw [e2] at q; exact q.elim
        | some z =>
         rw [e2] at q
         cases z with
         | ow _ => exact q.elim
         | pi _ => exact q.elim
         | va _ => exact q.elim
         | no =>
          have q : PoF K W G σ H0 (.ok o (δ2.set i (.ow (.lst ds)))) Q := q
          intro b H1 H' R3 s1 nb nbe wb nwb
          obtain ⟨R4, hu, n4, nw4⟩ := R3.unhide ne nf
          have hb : a ≠ b := fun z => by
            have : upd G.He a (.lst ws) b = none := nbe
            rw [← z, upd_same] at this
            cases this
          have R5 : Rl K G (δ2.set i (.ow (.lst ds))) (σ.set i (some (.ref a))) H1 H' := R4.set_ow n4 ne ⟨ws, hu, rs.mono s1⟩ (fun o z => by rw [e2] at z; cases z) fun j s e o z => nw4 j s e o z
          have es : σ.set i (some (.ref a)) = σ := by
            apply List.ext_getElem?
            intro k
            by_cases hk : i = k
            · subst hk
              have hl : i < σ.length := (List.getElem?_eq_some_iff.mp hσ).1
              rw [List.getElem?_set_self hl, hσ]
            · rw [List.getElem?_set_ne hk]
          rw [es] at R5
          refine q b H1 H' R5 s1 nb ?_ wb fun j s e o z => ?_
          · have : upd G.He a (.lst ws) b = none := nbe
            rw [upd_ne (fun z => hb z.symm)] at this
            exact this
          · by_cases hj : i = j
            · subst hj
              rw [hσ] at z
              cases z
              exact hb rfl
            · rw [List.getElem?_set_ne hj] at e
              exact nwb j s e o z
    · have hs : ∀ H : Hp, Same (G.hide a (.lst ws)).He H → SqL K H a ws := fun H s => .inl (.inl (s a _ upd_same))
      exact
        { go := fun k H _ s hk => by
            obtain ⟨v, e, _⟩ := rs.get (List.getElem?_eq_getElem hk)
            exact ⟨ws, v, hs H s, e⟩
          stop := fun k H _ s hk => ⟨ws, hs H s, by rw [rs.length]; exact Nat.le_of_eq hk.symm⟩
          yld := fun k H x H' Hc s0 s sh hk y => by
            obtain ⟨rfl, y⟩ := y
            obtain ⟨v, e, rv⟩ := rs.get (List.getElem?_eq_getElem hk)
            have e2 := y ws (hs _ sh)
            rw [e] at e2
            cases e2
            exact ⟨_, Hc, List.getElem?_eq_getElem hk, Gr.refl s, rv.mono s0⟩ }
  · exact .inl ⟨G, δ, H0, R, comp_read' hv R q⟩
theorem PTs_imp {X : Cx} {e : List Expr} {t t' : TT} (h : PTs X e t) (i : ∀ σ H Q, t' σ H Q → t σ H Q) : PTs X e t' := ⟨fun pins s σ H Q I q => h.run pins s σ H Q I (i σ H Q q)⟩
section
variable {X : Cx} {W : Wi} {pos : Pos}
/-- the parts of a comprehension, in its block -/
structure CompOk (X : Cx) (W : Wi) (elt tg iter : Expr) (ifs : List Expr) (scope : Scope) (own : List (Str × Nat)) (fi : En → RI) (g : D → En → Option En) (vg : List Nat) (t : Option Den) (f : Den) : Prop where
  hv : ∀ j ∈ vg, j ∈ own.map (·.2)
  it : PI X tg iter (tI X.K W fi)
  ok : BlkOk X.N X.env.scope scope own
  tg : ∀ (s : Shared) (H : Hp) (C : Addr) (cl : List (Str × Addr)) (fp : List Addr), PG (X.blk s H scope (compEnvC scope cl C X.env) fp) tg (gM X.K g vg)
  tt : ∀ (s : Shared) (H : Hp) (C : Addr) (cl : List (Str × Addr)) (fp : List Addr), PTs (X.blk s H scope (compEnvC scope cl C X.env) fp) ifs (tO X.K (Wi.none W.ct) t)
  el : ∀ (s : Shared) (H : Hp) (C : Addr) (cl : List (Str × Addr)) (fp : List Addr), PE (X.blk s H scope (compEnvC scope cl C X.env) fp) elt (tM X.K (Wi.none W.ct) f)
  fs : ∀ x, foldedSetIterable iter X.env x = pure x
theorem mf_comp {elt tg iter : Expr} {ifs : List Expr} {scope : Scope} {own : List (Str × Nat)} {fi : En → RI} {g : D → En → Option En} {vg : List Nat} {t : Option Den} {f : Den} (hc : X.calm = true) (hN : X.N.Nodup) (h : CompOk X W elt tg iter ifs scope own fi g vg t f) :
    PE X (.ListComp elt [⟨tg, iter, ifs, 0⟩] scope pos) (tF X.K W (fComp fi g t f (own.map (·.2)))) :=
  PE_imp (pe_lc hc hN h.it h.ok h.tg h.tt h.el h.fs) fun σ H Q q => comp_read h.hv q
def fCompI (o : Option Nat) (fi : En → RI) (g : D → En → Option En) (t : Option Den) (f : Den) (vs : List Nat) : FDen := match o with
  | none => fComp fi g t f vs
  | some i => fCompB i g t f vs
def wiI (K : PySem.W.Frag) (W : Wi) (o : Option Nat) (fi : En → RI) : TI := match o with
  | none => tI K W fi
  | some i => fun σ H R => tI K W (iSeq (dVar i)) σ H R ∨ tIB K i σ H R
theorem comp_readI {K : PySem.W.Frag} {W : Wi} {o : Option Nat} {fi : En → RI} {g : D → En → Option En} {t : Option Den} {f : Den} {vs vg : List Nat} (hv : ∀ j ∈ vg, j ∈ vs) {σ : L2.St} {H : Hp} {Q : VK} (h : tF K W (fCompI o fi g t f vs) σ H Q) :
    tLc (wiI K W o fi) (gM K g vg) (tO K (Wi.none W.ct) t) (tM K (Wi.none W.ct) f) vs σ H Q := by
  cases o with
  | none => exact comp_read hv h
  | some i => exact comp_readB hv h
theorem mf_compI {elt tg iter : Expr} {ifs : List Expr} {scope : Scope} {own : List (Str × Nat)} {o : Option Nat} {fi : En → RI} {g : D → En → Option En} {vg : List Nat} {t : Option Den} {f : Den} (hc : X.calm = true) (hN : X.N.Nodup) (h : CompOk X W elt tg iter ifs scope own fi g vg t f) (hx : PI X tg iter (wiI X.K W o fi)) :
    PE X (.ListComp elt [⟨tg, iter, ifs, 0⟩] scope pos) (tF X.K W (fCompI o fi g t f (own.map (·.2)))) :=
  PE_imp (pe_lc hc hN hx h.ok h.tg h.tt h.el h.fs) fun σ H Q q => comp_readI h.hv q
/-! ### a new object to a name -/
def sOwn (i : Nat) (f : FDen) : SDen := fun δ => match f δ with
  | .ok o δ1 => (match δ1[i]? with
    | some (.pi _) => .bad
    | some _ => .nx (δ1.set i (.ow o))
    | none => .bad)
  | .rz c δ1 => .rz c δ1
  | .bad => .bad
theorem asg_va {st : Stmt} {i : Nat} {t : TE} {f : Den} (h : PS X st (tAsg t (gName i))) (ht : ∀ σ H Q, tM X.K W f σ H Q → t σ H Q) : PS X st (sM X.K W (sAsg (Tg.st (.var i)) f)) :=
  PS_imp h fun D σ H ⟨G, δ, H0, R, q⟩ => ht σ H _ ⟨G, δ, H0, R, PoS.bindE q fun d δ1 v H1 H' R1 r1 h1 => by
    have h1 : PoS X.K W G H1 (match stD i d δ1 with | some δ2 => .nx δ2 | none => .bad) D := h1
    cases e : stD i d δ1 with
    | none => rw [e] at h1; exact h1.elim
    | some δ2 =>
      rw [e] at h1
      obtain ⟨rfl, np⟩ := stD_some e
      exact PoS.nx_ h1 (R1.set_va r1 np)⟩
theorem asg_ow {st : Stmt} {i : Nat} {t : TE} {f : FDen} (h : PS X st (tAsg t (gName i))) (ht : ∀ σ H Q, tF X.K W f σ H Q → t σ H Q) : PS X st (sM X.K W (sOwn i f)) :=
  PS_imp h fun D σ H ⟨G, δ, H0, R, q⟩ => ht σ H _ ⟨G, δ, H0, R, by
    unfold sOwn at q
    cases e : f δ with
    | bad => rw [e] at q; exact q
    | rz c δ1 => rw [e] at q; exact fun cls dd H1 H' R1 s x => q cls dd σ H1 H' R1 s x
    | ok o δ1 =>
      rw [e] at q
      have q : PoS X.K W G H0 (match δ1[i]? with
        | some (.pi _) => .bad
        | some _ => .nx (δ1.set i (.ow o))
        | none => .bad) D := q
      intro a H1 H' R1 s1 n0 ne w nw
      split at q
      · exact q.elim
      · rename_i s hs e2
        exact q _ H1 H' (R1.set_ow n0 ne w (fun o z => by rw [z] at e2; cases e2; exact hs _ rfl) nw) s1
      · exact q.elim⟩
end
end Z

namespace Z
open PySem PySem.Spec PyProof.Rows L2
section
variable {X : Cx} {W : Wi} {pos : Pos}
/-! ### what the frame owns, written and read -/
def ownAt (δ : En) (i : Nat) : Option O :=
  match δ[i]? with
  | some (.ow o) => some o
  | some (.pi o) => some o
  | _ => none
def setOwn (δ : En) (i : Nat) (o : O) : En :=
  match δ[i]? with
  | some (.ow _) => δ.set i (.ow o)
  | some (.pi _) => δ.set i (.pi o)
  | _ => δ
theorem Rl.owned {K : PySem.W.Frag} {G : Gh} {δ : En} {σ : L2.St} {H0 H : Hp} (R : Rl K G δ σ H0 H) {i : Nat} {o : O} (h : ownAt δ i = some o) :
    ∃ a : Addr, σ[i]? = some (some (V.ref a)) ∧ H0 a = none ∧ G.He a = none ∧ OwnAt K H0 H a o := by
  unfold ownAt at h
  split at h
  · rename_i e; cases h; exact R.own_at e
  · rename_i e; cases h; exact R.pin_at e
  · cases h
theorem Rl.wrote {K : PySem.W.Frag} {G : Gh} {δ : En} {σ : L2.St} {H0 H : Hp} (R : Rl K G δ σ H0 H) {i : Nat} {o o' : O} {a : Addr} {u : HO} (h : ownAt δ i = some o) (hσ : σ[i]? = some (some (V.ref a))) (n0 : H0 a = none) (ne : G.He a = none) (w : OwnAt K H0 (upd H a u) a o') :
    Rl K G (setOwn δ i o') σ H0 (upd H a u) := by
  unfold ownAt at h
  unfold setOwn
  split at h
  · rename_i e
    first
    | exact R.write e rfl rfl hσ n0 ne w
    | (rw [e]; exact R.write e rfl rfl hσ n0 ne w)
  · rename_i e
    first
    | exact R.write e rfl rfl hσ n0 ne w
    | (rw [e]; exact R.write e rfl rfl hσ n0 ne w)
  · cases h
/-- name.append(e) -/
def sApp (i : Nat) (f : Den) : SDen := fun δ => match ownAt δ i with
  | some (.lst _) => bindES (f δ) fun d δ1 => match ownAt δ1 i with
    | some (.lst ds) => if ds.length < 1000000 then .nx (setOwn δ1 i (.lst (ds ++ [d]))) else .bad
    | _ => .bad
  | _ => .bad
theorem ms_app {i : Nat} {x : Str} {e : Expr} {f : Den} {p apos cpos : Pos} (hx : PE X (.Name x p) (tVar i)) (he : PE X e (tM X.K W f))
    (hfew : ((backTo cpos (starEach [e] X.env)).all (fun x => !x.1) && (backToKw cpos (keywordEach [] X.env)).all (fun x => x.1.isSome)
      && decide ([e].length + ([] : List Keyword).length + (if ([] : List Keyword).isEmpty then 0 else 1) < 30)) = true)
    (hline : (apos.endLine == cpos.line) = true) (hs : starEach [e] X.env = [(false, eval e X.env)]) : PS X (.Expr (.Call (.Attribute (.Name x p) "append" apos) [e] [] cpos) pos) (sM X.K W (sApp i f)) :=
  PS_imp (ps_expr (pe_bm PySem.F.plainAttrs_list PySem.F.slot_list_append PySem.F.type_list_append mt_append hx (pa_cons he pa_nil hs) rfl hfew hline hs rfl) rfl) fun D σ H ⟨G, δ, H0, R, q⟩ => by
    unfold sApp at q
    split at q
    · rename_i ds0 e0
      obtain ⟨a, hσ, n0, ne, vs, hv, rs⟩ := R.owned e0
      refine ⟨.ref a, hσ, .inl ⟨rfl, vs, .inl (.inl hv)⟩, G, δ, H0, R, PoS.bindE q fun d δ1 v H1 H' R1 r1 h1 => ?_⟩
      split at h1
      · rename_i ds e1
        split at h1
        · rename_i hl
          obtain ⟨a1, hσ1, n1, ne1, ws, hw, rs1⟩ := R1.owned e1
          rw [hσ] at hσ1
          cases hσ1
          exact ⟨a, ws, v, rfl, rfl, hw, by rw [rs1.length]; exact Nat.lt_of_lt_of_le hl (by decide), PoS.nx_ h1 (R1.wrote e1 hσ n1 ne1 ⟨_, upd_same, rs1.append (.cons r1 .nil)⟩)⟩
        · exact h1.elim
      · exact h1.elim
    · exact q.elim
/-- name.extend(what is new) -/
def sExt (i : Nat) (f : FDen) : SDen := fun δ => match ownAt δ i with
  | some (.lst _) => (match f δ with
    | .ok (.lst zs) δ1 => (match ownAt δ1 i with
      | some (.lst ds) => if ds.length + zs.length ≤ 1000000 then .nx (setOwn δ1 i (.lst (ds ++ zs))) else .bad
      | _ => .bad)
    | .ok _ _ => .bad
    | .rz c δ1 => .rz c δ1
    | .bad => .bad)
  | _ => .bad
theorem Reps.app {K : PySem.W.Frag} {H : Hp} : ∀ {vs ws : List V} {ds es : List D}, Reps K H vs ds → Reps K H ws es → Reps K H (vs ++ ws) (ds ++ es)
  | _, _, _, _, .nil, r => r
  | _, _, _, _, .cons h t, r => .cons h (Reps.app t r)
theorem ms_ext {i : Nat} {x : Str} {e : Expr} {f : FDen} {p apos cpos : Pos} (hx : PE X (.Name x p) (tVar i)) (he : PE X e (tF X.K W f))
    (hfew : ((backTo cpos (starEach [e] X.env)).all (fun x => !x.1) && (backToKw cpos (keywordEach [] X.env)).all (fun x => x.1.isSome)
      && decide ([e].length + ([] : List Keyword).length + (if ([] : List Keyword).isEmpty then 0 else 1) < 30)) = true)
    (hline : (apos.endLine == cpos.line) = true) (hs : starEach [e] X.env = [(false, eval e X.env)]) : PS X (.Expr (.Call (.Attribute (.Name x p) "extend" apos) [e] [] cpos) pos) (sM X.K W (sExt i f)) :=
  PS_imp (ps_expr (pe_bm PySem.F.plainAttrs_list PySem.F.slot_list_extend PySem.F.type_list_extend mt_extend hx (pa_cons he pa_nil hs) rfl hfew hline hs rfl) rfl) fun D σ H ⟨G, δ, H0, R, q⟩ => by
    unfold sExt at q
    split at q
    · rename_i ds0 e0
      obtain ⟨a, hσ, n0, ne, vs, hv, rs⟩ := R.owned e0
      refine ⟨.ref a, hσ, .inl ⟨rfl, vs, .inl (.inl hv)⟩, G, δ, H0, R, ?_⟩
      cases e : f δ with
      | bad => rw [e] at q; exact q.elim
      | rz c δ1 => rw [e] at q; exact fun cls dd H1 H' R1 s x => q cls dd σ H1 H' R1 s x
      | ok o δ1 =>
        rw [e] at q
        intro b H1 H' R1 s1 nb neb w nw
        cases o with
        | dic ks ds => exact q.elim
        | lst zs =>
          have q : PoS X.K W G H0 (match ownAt δ1 i with
            | some (.lst ds) => if ds.length + zs.length ≤ 1000000 then RS.nx (setOwn δ1 i (.lst (ds ++ zs))) else .bad
            | _ => .bad) D := q
          split at q
          · rename_i ds e1
            split at q
            · rename_i hl
              obtain ⟨a1, hσ1, n1, ne1, ws, hw, rs1⟩ := R1.owned e1
              rw [hσ] at hσ1
              cases hσ1
              obtain ⟨us, hu, rz⟩ := w
              exact ⟨a, b, ws, us, rfl, rfl, hw, hu, by rw [rs1.length, rz.length]; exact Nat.le_trans hl (by decide), q _ H1 _ (R1.wrote e1 hσ n1 ne1 ⟨_, upd_same, Reps.app rs1 rz⟩) s1⟩
            · exact q.elim
          · exact q.elim
    · exact q.elim
/-- name[ix] = e, the name's list owned -/
def subK (i : Nat) (d k : D) (δ2 : En) : RS :=
  match k, ownAt δ2 i with
  | .int k, some (.lst ds) => (match ixN ds.length k with
    | some j => .nx (setOwn δ2 i (.lst (ds.set j d)))
    | none => .bad)
  | _, _ => .bad
def sSub (i : Nat) (fi f : Den) : SDen := fun δ => bindES (f δ) fun d δ1 => match ownAt δ1 i with
  | some (.lst _) => bindES (fi δ1) fun k δ2 => subK i d k δ2
  | _ => .bad
theorem ms_sub {i : Nat} {x : Str} {ix e : Expr} {fi f : Den} {p spos : Pos} (hx : PE X (.Name x p) (tVar i)) (hi : PE X ix (tM X.K W fi)) (he : PE X e (tM X.K W f))
    (hs : swapsWithSole [.Subscript (.Name x p) ix spos] e pos.line X.env = pure false) (hw : swappedStores [.Subscript (.Name x p) ix spos] e X.env = pure none)
    (ha : ∀ v, assign (.Subscript (.Name x p) ix spos) X.env v = (do
      let ov ← holding [v] (eval (.Name x p) X.env)
      let iv ← holding [v, ov] (eval ix X.env)
      standAt spos
      holding [v, ov, iv] (setItem ov iv v)
      release [v, ov, iv] [])) :
    PS X (.Assign [.Subscript (.Name x p) ix spos] e pos) (sM X.K W (sSub i fi f)) :=
  PS_imp (ps_asg he (pg_sub hx hi set_list ha) hs hw rfl) fun D σ H ⟨G, δ, H0, R, q⟩ => ⟨G, δ, H0, R, PoS.bindE q fun d δ1 v H1 H' R1 r1 h1 => by
    split at h1
    · rename_i ds0 e0
      obtain ⟨a, hσ, n0, ne, vs, hv, rs⟩ := R1.owned e0
      refine ⟨.ref a, hσ, G, δ1, H1, R1, ?_⟩
      cases ef : fi δ1 with
      | bad => rw [ef] at h1; exact h1.elim
      | rz c δ2 => rw [ef] at h1; exact fun cls dd H2 H'' R2 s x => h1 cls dd σ H2 H'' R2 s x
      | ok k δ2 =>
        rw [ef] at h1
        intro w H2 H'' R2 s2 r2
        replace h1 : PoS X.K W G H1 (subK i d k δ2) D := h1
        unfold subK at h1
        split at h1
        · rename_i k' ds e1
          obtain ⟨a1, hσ1, n1, ne1, ws, hw, rs1⟩ := R2.owned e1
          rw [hσ] at hσ1
          cases hσ1
          cases r2
          split at h1
          · rename_i j ej
            exact ⟨a, ws, k', j, rfl, rfl, hw, by rw [rs1.length]; exact ej, h1 σ H2 _ (R2.wrote e1 hσ n1 ne1 ⟨_, upd_same, rs1.set (r1.mono s2) j⟩) s2⟩
          · exact h1.elim
        · exact h1.elim
    · exact h1.elim⟩
/-- what a name holds, as it stands -/
def peek (δ : En) (i : Nat) : Option D :=
  match δ[i]? with
  | some (.va d) => some d
  | some (.ow o) => some (ownD o)
  | some (.pi o) => some (ownD o)
  | _ => none
theorem Rl.peek {K : PySem.W.Frag} {G : Gh} {δ : En} {σ : L2.St} {H0 H : Hp} (R : Rl K G δ σ H0 H) {i : Nat} {d : D} (h : peek δ i = some d) :
    ∃ v, σ[i]? = some (some v) ∧ Rep K H v d := by
  have own : ∀ {a : Addr} {o : O}, OwnAt K H0 H a o → Rep K H (.ref a) (ownD o) := fun {a o} w => by
    cases o with
    | lst ds => obtain ⟨vs, hv, rs⟩ := w; exact .lst (.inl (.inl hv)) (rs.mono R.hs)
    | dic ks ds => obtain ⟨vs, hv, l, rs⟩ := w; exact .dic hv rfl l (rs.mono R.hs)
  unfold Z.peek at h
  split at h
  · rename_i e; cases h
    obtain ⟨v, h1, r⟩ := R.va_at e
    exact ⟨v, h1, r.mono R.hs⟩
  · rename_i e; cases h
    obtain ⟨a, h1, _, _, w⟩ := R.own_at e
    exact ⟨_, h1, own w⟩
  · rename_i e; cases h
    obtain ⟨a, h1, _, _, w⟩ := R.pin_at e
    exact ⟨_, h1, own w⟩
  · cases h
/-- name[ix], the name's list owned or not -/
def ixK (i : Nat) (k : D) (δ1 : En) : RE :=
  match δ1[i]? with
  | some (.va d) => ofO (idxD d k) δ1
  | some (.ow (.lst ds)) => (match k with
    | .int k => ofO (atI ds k) δ1
    | _ => .bad)
  | some (.pi (.lst ds)) => (match k with
    | .int k => ofO (atI ds k) δ1
    | _ => .bad)
  | _ => .bad
def dIxO (i : Nat) (fi : Den) : Den := fun δ => match peek δ i with
  | some _ => bindE (fi δ) fun k δ1 => ixK i k δ1
  | none => .bad
theorem me_ixO {i : Nat} {x : Str} {ix : Expr} {fi : Den} {p : Pos} (hx : PE X (.Name x p) (tVar i)) (hi : PE X ix (tM X.K W fi)) (hs : PlainIx ix) : PE X (.Subscript (.Name x p) ix pos) (tM X.K W (dIxO i fi)) :=
  PE_imp (pe_ix (ix_list.or ix_M) hx hi hs) fun σ H Q ⟨G, δ, H0, R, q⟩ => by
    unfold dIxO at q
    split at q
    · rename_i d0 e0
      obtain ⟨v0, hσ, _⟩ := R.peek e0
      refine ⟨v0, hσ, G, δ, H0, R, PoE.bind q fun k δ1 v H1 H' R1 s1 r1 h1 => ?_⟩
      unfold ixK at h1
      split at h1
      · rename_i d e1
        obtain ⟨v1, h2, rv⟩ := R1.va_at e1
        rw [hσ] at h2; cases h2
        obtain ⟨z, hz, h3⟩ := ofO_some h1
        exact .inr ⟨H1, d, k, z, R1.hs, rv, r1, hz, fun u H3 H'' g r => h3.new R1 g r⟩
      · rename_i ds e1
        obtain ⟨a1, hσ1, n1, ne1, ws, hw, rs1⟩ := R1.own_at e1
        rw [hσ] at hσ1; cases hσ1
        split at h1
        · cases r1
          obtain ⟨z, hz, h3⟩ := ofO_some h1
          obtain ⟨w, hw2, rw2⟩ := reps_at rs1 hz
          exact .inl ⟨a1, ws, _, w, rfl, rfl, .inl (.inl hw), hw2, h3.val R1 rw2⟩
        · exact h1.elim
      · rename_i ds e1
        obtain ⟨a1, hσ1, n1, ne1, ws, hw, rs1⟩ := R1.pin_at e1
        rw [hσ] at hσ1; cases hσ1
        split at h1
        · cases r1
          obtain ⟨z, hz, h3⟩ := ofO_some h1
          obtain ⟨w, hw2, rw2⟩ := reps_at rs1 hz
          exact .inl ⟨a1, ws, _, w, rfl, rfl, .inl (.inl hw), hw2, h3.val R1 rw2⟩
        · exact h1.elim
      · exact h1.elim
    · exact q.elim
/-- len(name), the name's list owned or not -/
def dLenO (i : Nat) : Den := fun δ => match peek δ i with
  | some d => ofO (lenL [d]) δ
  | none => .bad
theorem scal_grow {K : PySem.W.Frag} {G : Gh} {δ : En} {σ : L2.St} {H0 H H1 H' : Hp} (R : Rl K G δ σ H0 H) (g : Gr H H H1 H') : Rl K G δ σ H0 H' :=
  R.grow ⟨g.hs, Same.refl _, R.hs.trans g.hs, fun _ _ => rfl⟩
theorem me_lenO {i : Nat} {x : Str} {p p2 : Pos} (hc : X.calm = true) (hx : PE X (.Name x p) (tVar i)) (hg : Gl X "len") (hm : X.mg "len" = none) : PE X (.Call (.Name "len" p2) [.Name x p] [] pos) (tM X.K W (dLenO i)) :=
  PE_imp (pe_callB (Bi.call .len hc) hg hm PySem.boot_len (pa_cons hx pa_nil rfl)) fun σ H Q ⟨G, δ, H0, R, q⟩ => by
    unfold dLenO at q
    split at q
    · rename_i d e
      obtain ⟨v, hσ, r⟩ := R.peek e
      obtain ⟨z, hz, h3⟩ := ofO_some q
      refine ⟨v, hσ, H, [d], z, Same.refl _, .cons r .nil, hz, fun u H1 H' g r2 => ?_⟩
      have e2 : ∃ n : Int, z = .int n := by
        unfold lenL at hz
        split at hz
        · cases hz; exact ⟨_, rfl⟩
        · cases hz; exact ⟨_, rfl⟩
        · split at hz
          · cases hz; exact ⟨_, rfl⟩
          · cases hz
        · cases hz
      obtain ⟨n, rfl⟩ := e2
      cases r2
      exact h3.val (scal_grow R g) (.int n)
    · exact q.elim
/-- a comparison of what a name holds, as it stands -/
def bK (g : D → D → Option D) (i : Nat) (y : D) (δ1 : En) : RE :=
  match peek δ1 i with
  | some d => (match g d y with
    | some (.bl b) => .ok (.bl b) δ1
    | _ => .bad)
  | none => .bad
def dCmpB (g : D → D → Option D) (i : Nat) (fb : Den) : Den := fun δ => match peek δ i with
  | some _ => bindE (fb δ) fun y δ1 => bK g i y δ1
  | none => .bad
theorem bK_read {g : D → D → Option D} {i : Nat} {y : D} {δ1 : En} {G : Gh} {σ : L2.St} {H1 H' : Hp} {v w : V} {Q : VK} (R1 : Rl X.K G δ1 σ H1 H') (hσ : σ[i]? = some (some v)) (r1 : Rep X.K H1 w y) (h1 : PoE X.K W G σ H1 (bK g i y δ1) Q) : rM X.K g v w H' Q := by
  unfold bK at h1
  split at h1
  · rename_i d e
    obtain ⟨v1, h2, rv⟩ := R1.peek e
    rw [hσ] at h2; cases h2
    split at h1
    · rename_i b hz
      refine ⟨H', d, y, .bl b, Same.refl _, rv, r1.mono R1.hs, hz, fun u H3 H'' g r => ?_⟩
      cases r
      exact h1.val (scal_grow R1 g) (.bl b)
    · exact h1.elim
  · exact h1.elim
theorem me_cmpB {op : CmpOp} {g : D → D → Option D} {i : Nat} {x : Str} {p : Pos} {b : Expr} {fb : Den} (ho : OpR X (compareOp op) (rM X.K g)) (hx : PE X (.Name x p) (tVar i)) (hb : PE X b (tM X.K W fb)) (hm : behindInMarks op b = false) : PE X (.Compare (.Name x p) [op] [b] pos) (tM X.K W (dCmpB g i fb)) :=
  PE_imp (pe_cmpR ho hx hb hm) fun σ H Q ⟨G, δ, H0, R, q⟩ => by
    unfold dCmpB at q
    split at q
    · rename_i d0 e0
      obtain ⟨v0, hσ, _⟩ := R.peek e0
      exact ⟨v0, hσ, G, δ, H0, R, PoE.bind q fun y δ1 w H1 H' R1 s1 r1 h1 => bK_read R1 hσ r1 h1⟩
    · exact q.elim
theorem mt_cmpB {op : CmpOp} {g : D → D → Option D} {i : Nat} {x : Str} {p : Pos} {b : Expr} {fb : Den} (ho : OpR X (compareOp op) (rM X.K g)) (hx : PE X (.Name x p) (tVar i)) (hb : PE X b (tM X.K W fb)) (hm : behindInMarks op b = false) : PT X (.Compare (.Name x p) [op] [b] pos) (tT X.K W (dCmpB g i fb)) :=
  PT_imp (pt_cmpR ho hx hb hm) fun σ H Q ⟨G, δ, H0, R, q⟩ => by
    unfold dCmpB at q
    split at q
    · rename_i d0 e0
      obtain ⟨v0, hσ, _⟩ := R.peek e0
      exact ⟨v0, hσ, G, δ, H0, R, PoE.bind q.toE fun y δ1 w H1 H' R1 s1 r1 h1 => bK_read R1 hσ r1 h1⟩
    · exact q.elim
/-- a, b = e, f with two plain names -/
def sPar (i j : Nat) (fs : List Den) : SDen := fun δ => match dArgs fs δ with
  | .ok [d, e] δ1 => (match stD i d δ1 with
    | some δ2 => (match stD j e δ2 with
      | some δ3 => .nx δ3
      | none => .bad)
    | none => .bad)
  | .rz c δ1 => .rz c δ1
  | _ => .bad
theorem ms_par {st : Stmt} {i j : Nat} {fs : List Den} {es : List Expr} (h : PS X st (tPar i j (tA X.K W (dArgs fs)))) : PS X st (sM X.K W (sPar i j fs)) :=
  PS_imp h fun D σ H ⟨G, δ, H0, R, q⟩ => ⟨G, δ, H0, R, by
    unfold sPar at q
    cases e : dArgs fs δ with
    | bad => rw [e] at q; exact q
    | rz c δ1 => rw [e] at q; exact fun cls dd H1 H' R1 s x => q cls dd σ H1 H' R1 s x
    | ok ds δ1 =>
      rw [e] at q
      intro vs H1 H' R1 s1 r1
      match ds, r1, q with
      | [d1, d2], r1, q =>
        obtain ⟨v, w, rfl, rv, rw'⟩ := reps2 r1
        have q : PoS X.K W G H0 (match stD i d1 δ1 with
          | some δ2 => (match stD j d2 δ2 with
            | some δ3 => .nx δ3
            | none => .bad)
          | none => .bad) D := q
        cases e1 : stD i d1 δ1 with
        | none => rw [e1] at q; exact q.elim
        | some δ2 =>
          rw [e1] at q
          have q : PoS X.K W G H0 (match stD j d2 δ2 with
            | some δ3 => .nx δ3
            | none => .bad) D := q
          cases e2 : stD j d2 δ2 with
          | none => rw [e2] at q; exact q.elim
          | some δ3 =>
            rw [e2] at q
            obtain ⟨rfl, np⟩ := stD_some e1
            obtain ⟨rfl, np2⟩ := stD_some e2
            exact ⟨v, w, rfl, q _ H1 H' ((R1.set_va rv np).set_va rw' np2) s1⟩
      | [], r1, q => exact q.elim
      | [_], r1, q => exact q.elim
      | _ :: _ :: _ :: _, r1, q => exact q.elim⟩
/-- x += e, x -= e of whole numbers -/
def augD (o : Bool) : D → D → Option D
  | .int i, .int j => some (.int (if o then i + j else i - j))
  | _, _ => none
def sAug (i : Nat) (o : Bool) (f : Den) : SDen := fun δ => match δ[i]? with
  | some (.va x) => bindES (f δ) fun d δ1 => match augD o x d with
    | some z => (match stD i z δ1 with
      | some δ2 => .nx δ2
      | none => .bad)
    | none => .bad
  | _ => .bad
def augOp (o : Bool) : Operator := if o then .Add else .Sub
theorem ms_aug {i : Nat} {x : Str} {e : Expr} {f : Den} {p : Pos} (o : Bool) (hN : X.N.Nodup) (hi : X.N[i]? = some x) (hx : Loc X.env.scope x) (hf : X.fn x = true ∨ X.env.scope.names.lookup x = some .local) (he : PE X e (tM X.K W f)) : PS X (.AugAssign (.Name x p) (augOp o) e pos) (sM X.K W (sAug i o f)) := by
  have ip : PIp X (augOp o) (ipI fun i j => if o then i + j else i - j) := by
    cases o with
    | true => exact ip_add
    | false => exact ip_sub
  refine PS_imp (ps_aug hN hi hx he ip hf) fun D σ H ⟨G, δ, H0, R, q⟩ => ?_
  unfold sAug at q
  split at q
  · rename_i d0 e0
    obtain ⟨v0, hv0, r0⟩ := R.va_at e0
    refine ⟨v0, hv0, G, δ, H0, R, ?_⟩
    cases ef : f δ with
    | bad => rw [ef] at q; exact q.elim
    | rz c δ1 => rw [ef] at q; exact fun cls dd H1 H' R1 s x => q cls dd σ H1 H' R1 s x
    | ok d δ1 =>
      rw [ef] at q
      intro v H1 H' R1 s1 r1
      have q : PoS X.K W G H0 (match augD o d0 d with
        | some z => (match stD i z δ1 with
          | some δ2 => .nx δ2
          | none => .bad)
        | none => .bad) D := q
      cases ea : augD o d0 d with
      | none => rw [ea] at q; exact q.elim
      | some z =>
        rw [ea] at q
        have q : PoS X.K W G H0 (match stD i z δ1 with
          | some δ2 => .nx δ2
          | none => .bad) D := q
        cases e2 : stD i z δ1 with
        | none => rw [e2] at q; exact q.elim
        | some δ2 =>
          rw [e2] at q
          obtain ⟨rfl, np⟩ := stD_some e2
          unfold augD at ea
          split at ea
          · cases ea
            cases r0
            cases r1
            exact ⟨_, _, rfl, rfl, q _ H1 H' (R1.set_va (.int _) np) s1⟩
          · cases ea
  · exact q.elim
end
end Z

namespace ZX
open PySem PySem.Spec PyProof.Rows L2
/-! ### a list's slice with a step -/
def pickG {α : Type} (xs : List α) (lo hi st : Option Int) : List α := (sliceRange (sliceBounds lo hi st xs.length).1 (sliceBounds lo hi st xs.length).2.1 (sliceBounds lo hi st xs.length).2.2).filterMap (xs[·]?)
theorem pick_eq (its : List Value) (lo hi st : Option Int) : slicePick its.toArray lo hi st = (pickG its lo hi st).toArray := by
  unfold slicePick pickG
  rw [List.size_toArray]
  have e : (fun i : Nat => its.toArray[i]?) = fun i : Nat => its[i]? := funext fun i => by simp
  rw [e]
theorem vals_fm {xs : List V} {us : List Value} (r : Vals xs us) : ∀ is : List Nat, Vals (is.filterMap (xs[·]?)) (is.filterMap (us[·]?))
  | [] => .nil
  | i :: is => by
    rw [List.filterMap_cons, List.filterMap_cons]
    cases hx : xs[i]? with
    | none =>
      have : us[i]? = none := by
        rw [List.getElem?_eq_none_iff] at hx ⊢
        rw [← r.length]; exact hx
      rw [this]
      exact vals_fm r is
    | some x =>
      obtain ⟨u, hu, ru⟩ := r.get hx
      rw [hu]
      exact .cons ru (vals_fm r is)
theorem vals_pick {xs : List V} {us : List Value} (r : Vals xs us) (lo hi st : Option Int) : Vals (pickG xs lo hi st) (pickG us lo hi st) := by
  unfold pickG
  rw [r.length]
  exact vals_fm r _
theorem pick_len {α : Type} (xs : List α) (lo hi st : Option Int) : (pickG xs lo hi st).length ≤ (sliceRange (sliceBounds lo hi st xs.length).1 (sliceBounds lo hi st xs.length).2.1 (sliceBounds lo hi st xs.length).2.2).length := List.length_filterMap_le _ _
def tStL (K : PySem.W.Frag) (te : TE) (tl th ts : L2.St → Hp → (Option Int → Hp → Prop) → Prop) : TE := fun σ H Q => te σ H fun x H1 => tl σ H1 fun l H2 => th σ H2 fun u H3 => ts σ H3 fun c H4 => ∃ a xs, x = .ref a ∧ SqL K H4 a xs ∧ c ≠ some 0 ∧ (pickG xs l u c).length ≤ sizeLine ∧ ∀ p, H4 p = none → Q (.ref p) (upd H4 p (.lst (pickG xs l u c)))
theorem pe_stepL {X : Cx} {e : Expr} {te : TE} {lo hi : Option Expr} {st : Expr} {tl th ts : L2.St → Hp → (Option Int → Hp → Prop) → Prop} {p3 pos : Pos} (he : PE X e te) (hl : PO X lo tl) (hh : PO X hi th) (hst : PO X (some st) ts) : PE X (.Subscript e (.Slice lo hi (some st) p3) pos) (tStL X.K te tl th ts) := by
  refine ⟨fun pins s σ H Q I h => ?_⟩
  refine Subscript_ (thn (he.run pins s σ H _ I h) fun v s1 ⟨x, H1, I1, r1, q1⟩ => ?_)
  refine wpAny_Slice (thn (hl.run pins s1 σ H1 _ I1 q1) fun vl s2 ⟨l, H2, I2, pl, q2⟩ => ?_)
  refine thn (hh.run pins s2 σ H2 _ I2 q2) fun vu s3 ⟨u, H3, I3, pu, q3⟩ => ?_
  refine thn (hst.run pins s3 σ H3 _ I3 q3) fun vs s4 ⟨o, H4, I4, ps, q4⟩ => ?_
  obtain ⟨a, xs, ex, hx, c0, hz', q⟩ := q4
  subst ex
  cases r1
  have I5 : Inv X pins σ H4 { s4 with heap := s4.heap.push { cls := .type "slice", data := .fields #[vl, vu, vs] } } := I4.kept (t' := s4.toks) fun b ob q => Heap.get?_push_of_some _ q
  obtain ⟨its, r, ht, hz⟩ := I5.list hx
  have hlen := r.length
  show wpAny (model X.prog X.w) X.A (subscriptTail e (.Slice lo hi (some st) p3) (.ref a) (.ref s4.heap.objs.size)) (EP X pins σ Q) X.xe { s4 with heap := s4.heap.push { cls := .type "slice", data := .fields #[vl, vu, vs] } }
  refine tail_any (ops := [.ref a, .ref s4.heap.objs.size]) ht.isList.typeIs (PySem.slot_list_getitem.lookup) ?_ (by with_unfolding_all rfl)
  refine wpAny_getItem_list_slice ht.isList (Heap.IsSliceOf.new _ vl vu vs) pl pu ps c0 ?_ (by rw [List.size_toArray]; omega)
  rw [pick_eq]
  refine ⟨.ref _, _, I5.laid (t' := s4.toks) (o := .lst (pickG xs l u o)) (fun b ob q => Heap.get?_push_of_some _ q) (Nat.le_refl _) ?_, rfl, q _ (I5.hok.fresh (Nat.le_refl _))⟩
  exact ⟨hz', _, 0, vals_pick r l u o, Heap.get?_push_size _ rfl⟩
/-! ### a tuple's slice with a step, too -/
def pickT {α : Type} (xs : List α) (lo hi : Option Int) (c : Int) : List α :=
  (List.range (Builtin.Slice.slicePlaces (Builtin.Slice.sliceAdjust lo hi c (xs.length : Int)).1 (Builtin.Slice.sliceAdjust lo hi c (xs.length : Int)).2 c)).filterMap fun (m : Nat) => xs[((Builtin.Slice.sliceAdjust lo hi c (xs.length : Int)).1 + (m : Int) * c).toNat]?
section
variable {prog : Program} {w : World} {A : Around} {E : Value → Shared → Prop} {s : Shared}
theorem sliceApplied_st {sl : Addr} {vl vu vs : Value} {lo hi : Option Int} {c : Int} {n : Nat} {Q : Int × Int × Nat → Shared → Prop} (hs : s.heap.IsSliceOf sl vl vu vs) (pl : IsPart vl lo) (pu : IsPart vu hi) (ps : IsPart vs (some c)) (h0 : c ≠ 0)
    (h : Q ((Builtin.Slice.sliceAdjust lo hi c (n : Int)).1, c, Builtin.Slice.slicePlaces (Builtin.Slice.sliceAdjust lo hi c (n : Int)).1 (Builtin.Slice.sliceAdjust lo hi c (n : Int)).2 c) s) : wpAny (model prog w) A (Builtin.Slice.sliceApplied (.ref sl) (pure (n : Int))) Q E s := by
  obtain ⟨os, hos, hcs, hds⟩ := id hs
  unfold Builtin.Slice.sliceApplied Builtin.Slice.sliceFields
  refine wpAny_bind (wpAny_bind (wpAny_field hos hds (x := vl) rfl (wpAny_bind (wpAny_field hos hds (x := vu) rfl (wpAny_bind (wpAny_field hos hds (x := vs) rfl (wpAny_pure ?_)))))))
  refine wpAny_bind (HT.slicePart_ ps ?_)
  have hc : ¬ ((c == 0) = true) := by simpa using h0
  show wpAny _ _ (if (c == 0) = true then _ else _) _ _ s
  rw [if_neg hc]
  exact wpAny_bind (HT.slicePart_ pl (wpAny_bind (HT.slicePart_ pu (wpAny_bind (wpAny_pure (wpAny_pure h))))))
theorem pickT_eq (items : Array Value) (lo hi : Option Int) (c : Int) : ((List.range (Builtin.Slice.slicePlaces (Builtin.Slice.sliceAdjust lo hi c (items.size : Int)).1 (Builtin.Slice.sliceAdjust lo hi c (items.size : Int)).2 c)).filterMap fun (m : Nat) => items[((Builtin.Slice.sliceAdjust lo hi c (items.size : Int)).1 + (m : Int) * c).toNat]?).toArray = (pickT items.toList lo hi c).toArray := by
  unfold pickT
  rw [Array.length_toList]
  have e : (fun (m : Nat) => items[((Builtin.Slice.sliceAdjust lo hi c (items.size : Int)).1 + (m : Int) * c).toNat]?) = fun (m : Nat) => items.toList[((Builtin.Slice.sliceAdjust lo hi c (items.size : Int)).1 + (m : Int) * c).toNat]? := funext fun m => by simp
  rw [e]
theorem getItem_tuple_step {t sl : Addr} {items : Array Value} {vl vu vs : Value} {lo hi : Option Int} {c : Int} {Q : Value → Shared → Prop} (ht : IsTup s.heap t items) (hs : s.heap.IsSliceOf sl vl vu vs) (pl : IsPart vl lo) (pu : IsPart vu hi) (ps : IsPart vs (some c)) (h0 : c ≠ 0) (h1 : c ≠ 1)
    (h : Q (.ref s.heap.objs.size) { s with heap := s.heap.push { cls := .type "tuple", data := .seq (pickT items.toList lo hi c).toArray } })
    (hsz : (pickT items.toList lo hi c).length ≤ sizeLine) : wpAny (model prog w) A (getItem (.ref t) (.ref sl)) Q E s := by
  have htake : sizeOk (.seq (pickT items.toList lo hi c).toArray) := by
    show (pickT items.toList lo hi c).toArray.size ≤ sizeLine
    rw [List.size_toArray]
    exact hsz
  obtain ⟨os, hos, hcs, hds⟩ := id hs
  have hTs : s.TypeIs (.ref sl) "slice" := ⟨os, hos, hcs⟩
  unfold getItem
  try with_reducible refine wpAny_holding ?_
  first | refine wpAny_bind (wpAny_pure ?_) | skip
  refine wpAny_bind (wpAny_sequenceKey ht.typeIs (by decide) ?_)
  refine wpAny_bind (wpAny_callSpecial?_slot (name := Str.ofString "__getitem__") ht.typeIs PyProof.Rows.slot_tuple_getitem
    (wpAny_call_entry PyProof.Rows.slot_tuple_getitem ht.typeIs entry_tuple_getitem ?_ (args_tuple_getitem _ _)))
  show wpAny _ _ (Builtin.Tuple.tupleItemsOf (.ref t) >>= _) _ _ s
  refine wpAny_bind (tupleItemsOf_ ht ?_)
  refine wpAny_bind (wpAny_typeOf hTs ?_)
  rw [if_pos (by decide)]
  refine wpAny_bind (sliceApplied_st hs pl pu ps h0 ?_)
  have hno : ∀ x : Bool, ∀ y : Bool, ¬ ((x && c == 1 && y) = true) := fun x y q => by
    rw [Bool.and_eq_true, Bool.and_eq_true] at q
    exact h1 (eq_of_beq q.1.2)
  show wpAny _ _ (if (((Builtin.Slice.sliceAdjust lo hi c (items.size : Int)).1 == 0 && c == 1 && (Builtin.Slice.slicePlaces (Builtin.Slice.sliceAdjust lo hi c (items.size : Int)).1 (Builtin.Slice.sliceAdjust lo hi c (items.size : Int)).2 c) == items.size) = true) then _ else _) _ _ s
  rw [if_neg (hno _ _), pickT_eq]
  first
    | exact wpAny_bind (m := Builtin.Tuple.tupleExact _) (wpAny_newObj_type (wpAny_pure ⟨_, rfl, wpAny_pure h⟩) htake)
    | exact wpAny_bind (m := Builtin.Tuple.tupleExact _) (wpAny_newObj_type (wpAny_bind (wpAny_pure (wpAny_pure ⟨_, rfl, wpAny_pure h⟩))) htake)
    | exact wpAny_bind (wpAny_bind (m := Builtin.Tuple.tupleExact _) (wpAny_newObj_type (wpAny_pure (wpAny_pure ⟨_, rfl, wpAny_pure h⟩)) htake))
    | exact wpAny_bind (wpAny_bind (m := Builtin.Tuple.tupleExact _) (wpAny_newObj_type (wpAny_pure ⟨_, rfl, wpAny_pure h⟩) htake))
end
theorem vals_fmT {xs : List V} {us : List Value} (r : Vals xs us) (f : Nat → Nat) : ∀ is : List Nat, Vals (is.filterMap fun i => xs[f i]?) (is.filterMap fun i => us[f i]?)
  | [] => .nil
  | i :: is => by
    rw [List.filterMap_cons, List.filterMap_cons]
    cases hx : xs[f i]? with
    | none =>
      have : us[f i]? = none := by
        rw [List.getElem?_eq_none_iff] at hx ⊢
        rw [← r.length]; exact hx
      rw [this]
      exact vals_fmT r f is
    | some x =>
      obtain ⟨u, hu, ru⟩ := r.get hx
      rw [hu]
      exact .cons ru (vals_fmT r f is)
theorem vals_pickT {xs : List V} {us : List Value} (r : Vals xs us) (lo hi : Option Int) (c : Int) : Vals (pickT xs lo hi c) (pickT us lo hi c) := by
  unfold pickT
  rw [r.length]
  exact vals_fmT r (fun m => ((Builtin.Slice.sliceAdjust lo hi c (us.length : Int)).1 + (m : Int) * c).toNat) _
def tStA (K : PySem.W.Frag) (te : TE) (tl th ts : L2.St → Hp → (Option Int → Hp → Prop) → Prop) : TE := fun σ H Q => te σ H fun x H1 => tl σ H1 fun l H2 => th σ H2 fun u H3 => ts σ H3 fun c H4 =>
  (∃ a xs, x = .ref a ∧ SqL K H4 a xs ∧ c ≠ some 0 ∧ (pickG xs l u c).length ≤ sizeLine ∧ ∀ p, H4 p = none → Q (.ref p) (upd H4 p (.lst (pickG xs l u c)))) ∨
  (∃ a xs k, x = .ref a ∧ SqT K H4 a xs ∧ c = some k ∧ k ≠ 0 ∧ k ≠ 1 ∧ (pickT xs l u k).length ≤ sizeLine ∧ ∀ p, H4 p = none → Q (.ref p) (upd H4 p (.tup (pickT xs l u k))))
theorem pe_stepA {X : Cx} {e : Expr} {te : TE} {lo hi : Option Expr} {st : Expr} {tl th ts : L2.St → Hp → (Option Int → Hp → Prop) → Prop} {p3 pos : Pos} (he : PE X e te) (hl : PO X lo tl) (hh : PO X hi th) (hst : PO X (some st) ts) : PE X (.Subscript e (.Slice lo hi (some st) p3) pos) (tStA X.K te tl th ts) := by
  refine ⟨fun pins s σ H Q I h => ?_⟩
  refine Subscript_ (thn (he.run pins s σ H _ I h) fun v s1 ⟨x, H1, I1, r1, q1⟩ => ?_)
  refine wpAny_Slice (thn (hl.run pins s1 σ H1 _ I1 q1) fun vl s2 ⟨l, H2, I2, pl, q2⟩ => ?_)
  refine thn (hh.run pins s2 σ H2 _ I2 q2) fun vu s3 ⟨u, H3, I3, pu, q3⟩ => ?_
  refine thn (hst.run pins s3 σ H3 _ I3 q3) fun vs s4 ⟨o, H4, I4, ps, q4⟩ => ?_
  have I5 : Inv X pins σ H4 { s4 with heap := s4.heap.push { cls := .type "slice", data := .fields #[vl, vu, vs] } } := I4.kept (t' := s4.toks) fun b ob q => Heap.get?_push_of_some _ q
  rcases q4 with ⟨a, xs, ex, hx, c0, hz', q⟩ | ⟨a, xs, k, ex, hx, eo, c0, c1, hz', q⟩
  · subst ex
    cases r1
    obtain ⟨its, r, ht, hz⟩ := I5.list hx
    have hlen := r.length
    show wpAny (model X.prog X.w) X.A (subscriptTail e (.Slice lo hi (some st) p3) (.ref a) (.ref s4.heap.objs.size)) (EP X pins σ Q) X.xe { s4 with heap := s4.heap.push { cls := .type "slice", data := .fields #[vl, vu, vs] } }
    refine tail_any (ops := [.ref a, .ref s4.heap.objs.size]) ht.isList.typeIs (PySem.slot_list_getitem.lookup) ?_ (by with_unfolding_all rfl)
    refine wpAny_getItem_list_slice ht.isList (Heap.IsSliceOf.new _ vl vu vs) pl pu ps c0 ?_ (by rw [List.size_toArray]; omega)
    rw [pick_eq]
    refine ⟨.ref _, _, I5.laid (t' := s4.toks) (o := .lst (pickG xs l u o)) (fun b ob q => Heap.get?_push_of_some _ q) (Nat.le_refl _) ?_, rfl, q _ (I5.hok.fresh (Nat.le_refl _))⟩
    exact ⟨hz', _, 0, vals_pick r l u o, Heap.get?_push_size _ rfl⟩
  · subst ex eo
    cases r1
    obtain ⟨its, r, ht, hz⟩ := I5.tuple hx
    have hlen := r.length
    have vp := vals_pickT r l u k
    show wpAny (model X.prog X.w) X.A (subscriptTail e (.Slice lo hi (some st) p3) (.ref a) (.ref s4.heap.objs.size)) (EP X pins σ Q) X.xe { s4 with heap := s4.heap.push { cls := .type "slice", data := .fields #[vl, vu, vs] } }
    refine tail_any (ops := [.ref a, .ref s4.heap.objs.size]) ht.typeIs (PyProof.Rows.slot_tuple_getitem.lookup) ?_ (by with_unfolding_all rfl)
    refine getItem_tuple_step ht (Heap.IsSliceOf.new _ vl vu vs) pl pu ps c0 c1 ?_ (by show (pickT its l u k).length ≤ _; rw [← vp.length]; exact hz')
    refine ⟨.ref _, _, I5.laid (t' := s4.toks) (o := .tup (pickT xs l u k)) (fun b ob q => Heap.get?_push_of_some _ q) (Nat.le_refl _) ?_, rfl, q _ (I5.hok.fresh (Nat.le_refl _))⟩
    exact ⟨hz', _, vp, IsTup.new _ _⟩
end ZX
namespace Z
open PySem PySem.Spec PyProof.Rows L2 ZX
section
variable {X : Cx} {W : Wi} {pos : Pos}
theorem reps_fm {K : PySem.W.Frag} {H : Hp} {xs : List V} {ds : List D} (r : Reps K H xs ds) : ∀ is : List Nat, Reps K H (is.filterMap (xs[·]?)) (is.filterMap (ds[·]?))
  | [] => .nil
  | i :: is => by
    rw [List.filterMap_cons, List.filterMap_cons]
    cases hx : ds[i]? with
    | none =>
      have : xs[i]? = none := by
        rw [List.getElem?_eq_none_iff] at hx ⊢
        rw [r.length]; exact hx
      rw [this]
      exact reps_fm r is
    | some d =>
      obtain ⟨u, hu, ru⟩ := r.get hx
      rw [hu]
      exact .cons ru (reps_fm r is)
theorem reps_pick {K : PySem.W.Frag} {H : Hp} {xs : List V} {ds : List D} (r : Reps K H xs ds) (lo hi st : Option Int) : Reps K H (pickG xs lo hi st) (pickG ds lo hi st) := by
  unfold pickG
  rw [r.length]
  exact reps_fm r _
def stpK (ds : List D) (l u c : Option Int) (δ : En) : RF := if (!decide (c = some 0) && decide ((pickG ds l u c).length ≤ 1000000)) = true then .ok (.lst (pickG ds l u c)) δ else .bad
def fStp (f : Den) (lo hi st : Option Den) : FDen := fun δ => bindEF (f δ) fun d δ1 => bindPF (dPart lo δ1) fun l δ2 => bindPF (dPart hi δ2) fun u δ3 => bindPF (dPart st δ3) fun c δ4 => match d with
  | .lst ds => stpK ds l u c δ4
  | _ => .bad
theorem mf_stp {e st : Expr} {f : Den} {lo hi : Option Expr} {fl fh fs : Option Den} {p2 : Pos} (he : PE X e (tM X.K W f)) (hl : PO X lo (tP X.K W (dPart fl))) (hh : PO X hi (tP X.K W (dPart fh))) (hst : PO X (some st) (tP X.K W (dPart fs))) : PE X (.Subscript e (.Slice lo hi (some st) p2) pos) (tF X.K W (fStp f fl fh fs)) :=
  PE_imp (pe_stepL he hl hh hst) fun σ H Q ⟨G, δ, H0, R, h⟩ => ⟨G, δ, H0, R, PoE.bindF h fun d δ1 v H1 H' R1 s1 r1 h1 => ⟨G, δ1, H1, R1, PoP.bindF h1 fun l δ2 H2 H'' R2 s2 h2 => ⟨G, δ2, H2, R2, PoP.bindF h2 fun u δ3 H3 H''' R3 s3 h3 => ⟨G, δ3, H3, R3, PoP.bindF h3 fun c δ4 H4 H4' R4 s4 h4 => by
    have r4 := r1.mono (s2.trans (s3.trans s4))
    split at h4
    · unfold stpK at h4
      split at h4
      · rename_i hc
        rw [Bool.and_eq_true, decide_eq_true_eq, Bool.not_eq_true', decide_eq_false_iff_not] at hc
        cases r4 with
        | lst q rs =>
          refine ⟨_, _, rfl, R4.hs.seq q, hc.1, ?_, fun p hp => h4.laid R4 hp ⟨_, upd_same, reps_pick rs l u c⟩⟩
          rw [(reps_pick rs l u c).length]
          exact Nat.le_trans hc.2 (by decide)
      · exact h4.elim
    · exact h4.elim⟩⟩⟩⟩
theorem reps_fmT {K : PySem.W.Frag} {H : Hp} {xs : List V} {ds : List D} (r : Reps K H xs ds) (f : Nat → Nat) : ∀ is : List Nat, Reps K H (is.filterMap fun i => xs[f i]?) (is.filterMap fun i => ds[f i]?)
  | [] => .nil
  | i :: is => by
    rw [List.filterMap_cons, List.filterMap_cons]
    cases hx : ds[f i]? with
    | none =>
      have : xs[f i]? = none := by
        rw [List.getElem?_eq_none_iff] at hx ⊢
        rw [r.length]; exact hx
      rw [this]
      exact reps_fmT r f is
    | some d =>
      obtain ⟨u, hu, ru⟩ := r.get hx
      rw [hu]
      exact .cons ru (reps_fmT r f is)
theorem reps_pickT {K : PySem.W.Frag} {H : Hp} {xs : List V} {ds : List D} (r : Reps K H xs ds) (lo hi : Option Int) (c : Int) : Reps K H (pickT xs lo hi c) (pickT ds lo hi c) := by
  unfold pickT
  rw [r.length]
  exact reps_fmT r (fun m => ((Builtin.Slice.sliceAdjust lo hi c (ds.length : Int)).1 + (m : Int) * c).toNat) _
/-- a slice with a step, read alone -/
def stpD (d : D) (l u c : Option Int) : Option D := match d with
  | .lst ds => if (!decide (c = some 0) && decide ((pickG ds l u c).length ≤ 1000000)) = true then some (.lst (pickG ds l u c)) else none
  | .tup ds => match c with
    | some k => if (!decide (k = 0) && !decide (k = 1) && decide ((pickT ds l u k).length ≤ 1000000)) = true then some (.tup (pickT ds l u k)) else none
    | none => none
  | _ => none
def dStp (f : Den) (lo hi st : Option Den) : Den := fun δ => bindE (f δ) fun d δ1 => bindP (dPart lo δ1) fun l δ2 => bindP (dPart hi δ2) fun u δ3 => bindP (dPart st δ3) fun c δ4 => ofO (stpD d l u c) δ4
theorem me_stp {e st : Expr} {f : Den} {lo hi : Option Expr} {fl fh fs : Option Den} {p2 : Pos} (he : PE X e (tM X.K W f)) (hl : PO X lo (tP X.K W (dPart fl))) (hh : PO X hi (tP X.K W (dPart fh))) (hst : PO X (some st) (tP X.K W (dPart fs))) : PE X (.Subscript e (.Slice lo hi (some st) p2) pos) (tM X.K W (dStp f fl fh fs)) :=
  PE_imp (pe_stepA he hl hh hst) fun σ H Q ⟨G, δ, H0, R, h⟩ => ⟨G, δ, H0, R, PoE.bind h fun d δ1 v H1 H' R1 s1 r1 h1 => ⟨G, δ1, H1, R1, PoP.bind h1 fun l δ2 H2 J2 R2 s2 h2 => ⟨G, δ2, H2, R2, PoP.bind h2 fun u δ3 H3 J3 R3 s3 h3 => ⟨G, δ3, H3, R3, PoP.bind h3 fun c δ4 H4 J4 R4 s4 h4 => by
    have r4 := r1.mono (s2.trans (s3.trans s4))
    obtain ⟨z, hz, h5⟩ := ofO_some h4
    unfold stpD at hz
    split at hz
    · split at hz
      · rename_i hc
        cases hz
        rw [Bool.and_eq_true, decide_eq_true_eq, Bool.not_eq_true', decide_eq_false_iff_not] at hc
        cases r4 with
        | lst q rs =>
          refine .inl ⟨_, _, rfl, R4.hs.seq q, hc.1, ?_, fun p hp => h5.new R4 (Gr.new R4.hs hp) (.lst (.inl (.inl upd_same)) ((reps_pick rs l u c).mono (Gr.new R4.hs hp).h0))⟩
          rw [(reps_pick rs l u c).length]
          exact Nat.le_trans hc.2 (by decide)
      · cases hz
    · split at hz
      · split at hz
        · rename_i k hc
          cases hz
          rw [Bool.and_eq_true, Bool.and_eq_true, decide_eq_true_eq, Bool.not_eq_true', Bool.not_eq_true', decide_eq_false_iff_not, decide_eq_false_iff_not] at hc
          cases r4 with
          | tup q rs =>
            refine .inr ⟨_, _, k, rfl, Same.seqT R4.hs q, rfl, hc.1.1, hc.1.2, ?_, fun p hp => h5.new R4 (Gr.new R4.hs hp) (.tup (.inl (.inl upd_same)) ((reps_pickT rs l u k).mono (Gr.new R4.hs hp).h0))⟩
            rw [(reps_pickT rs l u k).length]
            exact Nat.le_trans hc.2 (by decide)
        · cases hz
      · cases hz
    · cases hz⟩⟩⟩⟩
end
end Z

namespace ZQ
open PySem PySem.Spec PyProof.Rows L2
/-! ### enumerate over a tuple -/
theorem meets_enumerate_newT (l : Addr) (items : Array Value) (n : Nat) (dct : Option Addr) (sl : Array (Option Value)) :
    Meets (Builtin.«enumerate.__new__» ⟨[.type "enumerate", .ref l], []⟩) (fun _ R s => s.heap.get? l = some { cls := .type "tuple", dict := dct, data := .seq items n, slots := sl } ∧
      R (.ok (.ret (.ref (s.heap.push { cls := .type "tuple_iterator", data := .fields #[.ref l, .int 0 0] }).objs.size)))
        { s with heap := (s.heap.push { cls := .type "tuple_iterator", data := .fields #[.ref l, .int 0 0] }).push { cls := .type "enumerate", data := .fields #[.none, .bool false, .ref s.heap.objs.size, rawInt 0, .none, .none] } }) :=
  .of_wp fun prog w A R s h => by
    obtain ⟨hp, g, d, tk, os⟩ := s; obtain ⟨hl, h⟩ := h
    have hsub := sub_enumerate
    have hL : Heap.IsTuple (Shared.heap ⟨hp, g, d, tk, os⟩) l items := ⟨_, hl, rfl, n, rfl⟩
    wp_walk using AutoSeq1.wpAny_loadPart' hl
    refine wpAny_stack_any fun st => wpAny_pure ?_
    split
    · rename_i c _ _ _ _ _
      cases (c == Value.type "enumerate")
      · wp_walk using AutoSeq1.wpAny_loadPart' hl, wpAny_pyIter_tuple hL
        exact ⟨_, rfl, h⟩
      · wp_walk using AutoSeq1.wpAny_loadPart' hl, wpAny_pyIter_tuple hL
        exact ⟨_, rfl, h⟩
    · wp_walk using AutoSeq1.wpAny_loadPart' hl, wpAny_pyIter_tuple hL
      exact ⟨_, rfl, h⟩
section
variable {prog : Program} {w : World} {A : Around} {E : Value → Shared → Prop} {s : Shared}
theorem call_enumerate_tuple {l : Addr} {items : Array Value} {Q : Value → Shared → Prop} (hL : s.heap.IsTuple l items)
    (h : ∀ h', IsEnum h' (s.heap.objs.size + 1) s.heap.objs.size 0 .none → h'.IsTupleIter s.heap.objs.size l 0 → h'.objs.size = s.heap.objs.size + 2 →
      (∀ b o, s.heap.get? b = some o → h'.get? b = some o) → Q (.ref (s.heap.objs.size + 1)) { s with heap := h' }) :
    wpAny (model prog w) A (call (.type "enumerate") [.ref l]) Q E s := by
  obtain ⟨⟨c, dct, dt, sl⟩, hl, hc, n, hd⟩ := hL
  replace hc : c = .type "tuple" := hc
  replace hd : dt = .seq items n := hd
  subst hc hd
  refine callType_new F.called_enumerate (by decide) (F.typeCall_enumerate_1 _) (F.newCall_enumerate_1 _) (fun obj => F.args_object_init_2 obj _) F.entry_enumerate_new
    (meets_enumerate_newT l items n dct sl) ⟨hl, ?_⟩
  have hz : (s.heap.push { cls := .type "tuple_iterator", data := .fields #[.ref l, .int 0 0] }).objs.size = s.heap.objs.size + 1 := Heap.size_push ..
  show _ ∧ _
  rw [hz]
  have he : IsEnum ((s.heap.push { cls := .type "tuple_iterator", data := .fields #[.ref l, .int 0 0] }).push
      { cls := .type "enumerate", data := .fields #[.none, .bool false, .ref s.heap.objs.size, rawInt 0, .none, .none] }) (s.heap.objs.size + 1) s.heap.objs.size 0 .none := by
    have := Heap.get?_push_size (s.heap.push { cls := .type "tuple_iterator", data := .fields #[.ref l, .int 0 0] })
      (o := { cls := .type "enumerate", data := .fields #[.none, .bool false, .ref s.heap.objs.size, rawInt 0, .none, .none] }) rfl
    rw [hz] at this; exact this
  refine ⟨⟨_, he, rfl⟩, h _ he ⟨_, Heap.get?_push_of_some _ (Heap.get?_push_size _ rfl), rfl, rfl⟩ (by rw [Heap.size_push, hz]) fun b o x => Heap.get?_push_of_some _ (Heap.get?_push_of_some _ x)⟩
end
/-- the tuple at a, each item in a new pair -/
def IteT (K : PySem.W.Frag) (a : Addr) : It :=
  ⟨fun i H => ∃ (xs : List V) (x : V), SqT K H a xs ∧ xs[i]? = some x, fun i H v H' => ∃ T x, v = .ref T ∧ H T = none ∧ H' = upd H T (.tup [.int (i : Nat), x]) ∧ ∀ xs, SqT K H a xs → xs[i]? = some x, fun i H => ∃ xs : List V, SqT K H a xs ∧ xs.length ≤ i⟩
theorem turn_enumT {P : Program} {w : World} {K : PySem.W.Frag} {elts : List Expr} {kk : Nat} {tpos : Pos} (a e it : Addr) :
    Turn P w K (.Tuple elts kk tpos) (IteT K a) [e, it] e (fun i h => (∃ old, IsEnum h e it ((i : Nat) : Int) old) ∧ h.IsTupleIter it a i ∧ e ≠ it) where
  mem := by simp
  obj := fun i h st b hb => by
    obtain ⟨⟨old, he⟩, ⟨o, ho, hc, hd⟩, _⟩ := st
    have e' : b = e ∨ b = it := by simpa using hb
    rcases e' with z | z
    · rw [z]; exact ⟨_, he, fun v q => nomatch q⟩
    · rw [z]; exact ⟨o, ho, fun v q => by rw [hd] at q; cases q⟩
  keep := fun i h h' st k => let ⟨⟨old, he⟩, hi, hne⟩ := st; ⟨⟨old, k e (by simp) _ he⟩, hi.at fun o q => k it (by simp) o q, hne⟩
  item := by
    intro X hP hw hK hc i pins s σ H E I hf st hg
    subst hP hw hK
    obtain ⟨⟨old, he⟩, hit, hne⟩ := st
    obtain ⟨xs, x, hq, hx⟩ := hg
    obtain ⟨its, rv, p, hz⟩ := I.tuple hq
    obtain ⟨u, hu, ru⟩ := rv.get hx
    have hel : e < s.heap.objs.size := Heap.lt_size he
    have hil : it < s.heap.objs.size := by obtain ⟨_, q, _⟩ := hit; exact Heap.lt_size q
    have hai : a ≠ it := fun z => by
      subst z
      obtain ⟨o1, q1, c1, _⟩ := hit
      obtain ⟨o2, q2, c2, _⟩ := p
      rw [q1] at q2; cases q2
      rw [c1] at c2
      exact absurd (Value.type.inj c2) (by decide)
    have hae : a ≠ e := fun z => by
      subst z
      obtain ⟨o2, q2, c2, _⟩ := p
      have he' : s.heap.get? a = some _ := he
      rw [he'] at q2; cases q2
      exact absurd (Value.type.inj c2) (by decide)
    have hlt : i < its.toArray.size := by
      have := (List.getElem?_eq_some_iff.mp hu).1
      simpa using this
    refine wpAny_pyNext_enum_itemD (Draws.tuple (A := X.A.in1) (I.ok.hd hc) it a hai its.toArray) he ⟨hit, p⟩ hlt hne (by simp; exact ⟨hne, Ne.symm hae⟩) fun x' h' tk hP ho hst' hT hsz hk => ?_
    have ex : x' = u := by
      have hP : its.toArray[i]? = some x' := hP
      have hu' : its.toArray[i]? = some u := by simpa using hu
      rw [hu'] at hP; exact (Option.some.inj hP).symm
    subst ex
    refine ⟨_, rfl, wpAny_letOwnedTupleGo_enum (s := { s with heap := h', toks := tk + 1 }) ho fun h'' he' sb => ?_⟩
    have hT2 : h''.get? s.heap.objs.size = some { cls := .type "tuple", data := .seq #[.int i tk, x'] } := (sb.2 _ (Nat.ne_of_gt hel)).trans hT
    have new : ObjOk X.prog X.w (upd H s.heap.objs.size (.tup [.int (i : Nat), x])) h'' s.heap.objs.size (.tup [.int (i : Nat), x]) :=
      ⟨by show 2 ≤ sizeLine; decide, [.int i tk, x'], .cons ⟨_, rfl⟩ (.cons ru .nil), ⟨_, hT2, rfl, _, rfl⟩⟩
    have I1 : Inv X pins σ (upd H s.heap.objs.size (.tup [.int (i : Nat), x])) { s with heap := h'', toks := tk + 1 } :=
      I.turnedNew (ch := [e, it]) (fun b ob hb q => (sb.2 b (fun z => hb (by simp [z]))).trans (hk b ob (fun z => hb (by simp [z])) (fun z => hb (by simp [z])) q)) hf (Nat.le_refl _) new
    refine ⟨.ref s.heap.objs.size, _, I1, rfl, ⟨_, x, rfl, I.hok.fresh (Nat.le_refl _), rfl, fun ys hy => by rw [I.tuple_inj hy hq]; exact hx⟩, ⟨⟨x', ?_⟩, hst'.1.at fun o q => (sb.2 it (Ne.symm hne)).trans q, hne⟩, fun b hb => ?_⟩
    · have e1 : ((i + 1 : Nat) : Int) = (i : Int) + 1 := by omega
      rw [e1]; exact he'
    · have hb' : b < s.heap.objs.size := by
        have e' : b = e ∨ b = it := by simpa using hb
        rcases e' with z | z
        · rw [z]; exact hel
        · rw [z]; exact hil
      rw [upd_ne (Nat.ne_of_lt hb')]
      exact (hf b hb).1
  done := by
    intro X hP hw hK hc i pins s σ H E I hf st hg
    subst hP hw hK
    obtain ⟨⟨old, he⟩, hit, hne⟩ := st
    obtain ⟨xs, hq, hx⟩ := hg
    obtain ⟨its, rv, p, hz⟩ := I.tuple hq
    obtain ⟨f0, f1, f2, f3, f4, f5⟩ := hf it (by simp)
    have hl := rv.length
    have hT : s.TypeIs (.ref e) "enumerate" := ⟨_, he, rfl⟩
    unfold pyNext
    refine wpAny_bind (wpAny_attempt (wpAny_callSpecial?_slot (name := Str.ofString "__next__") hT F.slot_enumerate_next
      (wpAny_call_entry F.slot_enumerate_next hT F.entry_enumerate_next ?_ (F.args_enumerate_next_1 _))))
    show wpAny _ _ (field (.ref e) 2 >>= _) _ _ _
    refine wpAny_bind (wpAny_field he rfl (x := .ref it) rfl ?_)
    refine wpAny_bind (wpAny_nextOf_tuple_end (I.ok.hd hc) hit p (by simp; omega) fun h' x he' hx' => ?_)
    obtain ⟨o, ho, hc'⟩ := hx'
    refine wpAny_bind (wpAny_isInstance (T := "StopIteration") (b := true) ⟨o, ho, hc'⟩ isSubtype_stop ?_)
    exact wpAny_pure ⟨rfl, I.turned (t' := s.toks) (fun b o hb q => he' b o hb q) f0 f1 f3 f4 f5⟩
  self := fun A i s Q E st h => let ⟨⟨_, he⟩, _⟩ := st; wpAny_pyIter_enum he h
def iEnumA (K : PySem.W.Frag) (ta : TA) : TI := fun σ H R => ta σ H fun vs H1 => ∃ a xs, vs = [.ref a] ∧ ((SqL K H1 a xs ∧ R (Ite K a) H1) ∨ (SqT K H1 a xs ∧ R (IteT K a) H1))
theorem pi_enumA {X : Cx} {e : Expr} {ta : TA} {p pos tpos : Pos} {elts : List Expr} {kk : Nat} (hg : Gl X "enumerate") (hm : X.mg "enumerate" = none) (ha : PA X [e] ta) (hs : starEach [e] X.env = [(false, eval e X.env)] := by rfl) :
    PI X (.Tuple elts kk tpos) (.Call (.Name "enumerate" p) [e] [] pos) (iEnumA X.K ta) := by
  refine ⟨fun pins s σ H R I h => ?_⟩
  refine Call_ (ld_blt I hg hm boot_enumerate (PyProof.Rows.callWith_type1 (thn (ha.run pos pins s σ H _ I h) fun us s1 ⟨vs, H1, I1, r1, q1⟩ => ?_) hs rfl))
  obtain ⟨a, xs, ex, q1⟩ := q1
  subst ex
  cases r1 with
  | cons r rr =>
    cases rr
    cases r
    have low : ∀ b, b ∈ [s1.heap.objs.size + 1, s1.heap.objs.size] → s1.heap.objs.size ≤ b := fun b hb => by
      have e' : b = s1.heap.objs.size + 1 ∨ b = s1.heap.objs.size := by simpa using hb
      rcases e' with z | z
      · rw [z]; exact Nat.le_add_right _ _
      · rw [z]; exact Nat.le_refl _
    rcases q1 with ⟨hq, q⟩ | ⟨hq, q⟩
    · obtain ⟨its, rv, p', hz⟩ := I1.list hq
      refine call_enumerate_list p'.isList fun h' he hit hsz hk => wpAny_pyIter_enum he ?_
      have I2 : Inv X pins σ H1 { s1 with heap := h' } := I1.kept (t' := s1.toks) hk
      refine ⟨s1.heap.objs.size + 1, [s1.heap.objs.size + 1, s1.heap.objs.size], _, _, H1, rfl, I2, turn_enum a (s1.heap.objs.size + 1) s1.heap.objs.size, ⟨⟨.none, he⟩, hit, Nat.succ_ne_self _⟩, fun b hb => ?_, q⟩
      exact I1.fpOk (low b hb) (I1.hok.fresh (low b hb))
    · obtain ⟨its, rv, p', hz⟩ := I1.tuple hq
      refine call_enumerate_tuple p' fun h' he hit hsz hk => wpAny_pyIter_enum he ?_
      have I2 : Inv X pins σ H1 { s1 with heap := h' } := I1.kept (t' := s1.toks) hk
      refine ⟨s1.heap.objs.size + 1, [s1.heap.objs.size + 1, s1.heap.objs.size], _, _, H1, rfl, I2, turn_enumT a (s1.heap.objs.size + 1) s1.heap.objs.size, ⟨⟨.none, he⟩, hit, Nat.succ_ne_self _⟩, fun b hb => ?_, q⟩
      exact I1.fpOk (low b hb) (I1.hok.fresh (low b hb))
end ZQ

namespace ZU
open PySem PySem.Spec PyProof.Rows L2
/-! ### zip of a tuple and a list -/
def ItzM (K : PySem.W.Frag) (a b : Addr) : It :=
  ⟨fun i H => ∃ (xs ys : List V) (x y : V), SqT K H a xs ∧ SqL K H b ys ∧ xs[i]? = some x ∧ ys[i]? = some y,
    fun i H v H' => ∃ T x y, v = .ref T ∧ H T = none ∧ H' = upd H T (.tup [x, y]) ∧ (∀ xs, SqT K H a xs → xs[i]? = some x) ∧ ∀ ys, SqL K H b ys → ys[i]? = some y,
    fun i H => ∃ xs ys : List V, SqT K H a xs ∧ SqL K H b ys ∧ i ≤ xs.length ∧ i ≤ ys.length ∧ (i = xs.length ∨ i = ys.length)⟩
theorem turn_zipM {P : Program} {w : World} {K : PySem.W.Frag} {elts : List Expr} {kk : Nat} {tpos : Pos} {a b z TI TO i1 i2 : Addr} (D : ZipSep2 z TI TO i1 i2 [i1, a] [i2, b]) :
    Turn P w K (.Tuple elts kk tpos) (ItzM K a b) [z, TI, TO, i1, i2] z (fun i h => IsZip h z TI TO .none ∧ IsTupOf2 h TI (.ref i1) (.ref i2) ∧ (∃ x y, IsTupOf2 h TO x y) ∧ h.IsTupleIter i1 a i ∧ h.IsListIter i2 b i) where
  mem := by simp
  obj := fun i h st c hc => by
    obtain ⟨hz, hTI, ⟨x, y, hTO⟩, ⟨o1, e1, _, d1⟩, ⟨o2, e2, _, d2⟩⟩ := st
    have e' : c = z ∨ c = TI ∨ c = TO ∨ c = i1 ∨ c = i2 := by simpa using hc
    rcases e' with q | q | q | q | q
    · rw [q]; exact ⟨_, hz, fun v q => nomatch q⟩
    · rw [q]; exact ⟨_, hTI, fun v q => nomatch q⟩
    · rw [q]; exact ⟨_, hTO, fun v q => nomatch q⟩
    · rw [q]; exact ⟨o1, e1, fun v q => by rw [d1] at q; cases q⟩
    · rw [q]; exact ⟨o2, e2, fun v q => by rw [d2] at q; cases q⟩
  keep := fun i h h' st k => by
    obtain ⟨hz, hTI, ⟨x, y, hTO⟩, h1, h2⟩ := st
    exact ⟨k z (by simp) _ hz, k TI (by simp) _ hTI, ⟨x, y, k TO (by simp) _ hTO⟩, h1.at fun o q => k i1 (by simp) o q, h2.at fun o q => k i2 (by simp) o q⟩
  item := by
    intro X hP hw hK hc i pins s σ H E I hf st hg
    subst hP hw hK
    obtain ⟨hz, hTI, ⟨x0, y0, hTO⟩, h1, h2⟩ := st
    obtain ⟨xs, ys, x, y, hqx, hqy, hx, hy⟩ := hg
    obtain ⟨its, rv, p, _⟩ := I.tuple hqx
    obtain ⟨its2, rv2, p2, _⟩ := I.list hqy
    obtain ⟨u, hu, ru⟩ := rv.get hx
    obtain ⟨u2, hu2, ru2⟩ := rv2.get hy
    have hzl : z < s.heap.objs.size := Heap.lt_size hz
    have ha : a ≠ i1 := fun e => by
      subst e
      obtain ⟨o1, q1, c1, _⟩ := h1
      obtain ⟨o2, q2, c2, _⟩ := p
      rw [q1] at q2; cases q2
      rw [c1] at c2
      exact absurd (Value.type.inj c2) (by decide)
    have hb : b ≠ i2 := fun e => by
      subst e
      obtain ⟨o1, q1, c1, _⟩ := h2
      obtain ⟨o2, q2, c2, _⟩ := p2.isList
      rw [q1] at q2; cases q2
      rw [c1] at c2
      exact absurd (Value.type.inj c2) (by decide)
    have l1 : i < its.toArray.size := by
      have := (List.getElem?_eq_some_iff.mp hu).1
      simpa using this
    have l2 : i < its2.toArray.size := by
      have := (List.getElem?_eq_some_iff.mp hu2).1
      simpa using this
    refine wpAny_pyNext_zipD2_item D (Draws.tuple (A := X.A.in1) (I.ok.hd hc) i1 a ha its.toArray) (Draws.list (A := X.A.in1) (I.ok.hd hc) i2 b hb its2.toArray) hz hTI hTO ⟨h1, p⟩ ⟨h2, p2.isList⟩ l1 l2
      fun x1 x2 h' tk P1 P2 z' TO' st1 st2 hT hsz hk => ?_
    have ex1 : x1 = u := by
      have P1 : its.toArray[i]? = some x1 := P1
      have hu' : its.toArray[i]? = some u := by simpa using hu
      rw [hu'] at P1; exact (Option.some.inj P1).symm
    have ex2 : x2 = u2 := by
      have P2 : its2.toArray[i]? = some x2 := P2
      have hu' : its2.toArray[i]? = some u2 := by simpa using hu2
      rw [hu'] at P2; exact (Option.some.inj P2).symm
    subst ex1 ex2
    refine ⟨_, rfl, wpAny_letOwnedTupleGo_zip (s := { s with heap := h', toks := tk }) z' fun h'' z'' sb => ?_⟩
    have hT2 : h''.get? s.heap.objs.size = some { cls := .type "tuple", data := .seq #[x1, x2] } := (sb.2 _ (Nat.ne_of_gt hzl)).trans hT
    have new : ObjOk X.prog X.w (upd H s.heap.objs.size (.tup [x, y])) h'' s.heap.objs.size (.tup [x, y]) :=
      ⟨by show 2 ≤ sizeLine; decide, [x1, x2], .cons ru (.cons ru2 .nil), ⟨_, hT2, rfl, _, rfl⟩⟩
    have I1 : Inv X pins σ (upd H s.heap.objs.size (.tup [x, y])) { s with heap := h'', toks := tk } :=
      I.turnedNew (t' := tk) (ch := [z, TI, TO, i1, i2]) (fun c o hb q => (sb.2 c (fun q' => hb (by simp [q']))).trans (hk c o (fun q' => hb (by simp [q'])) (fun q' => hb (by simp [q'])) (fun q' => hb (by simp [q'])) (fun q' => hb (by simp [q'])) q)) hf (Nat.le_refl _) new
    refine ⟨.ref s.heap.objs.size, _, I1, rfl, ⟨_, x, y, rfl, I.hok.fresh (Nat.le_refl _), rfl, fun l hl => by rw [I.tuple_inj hl hqx]; exact hx, fun l hl => by rw [I.list_inj hl hqy]; exact hy⟩, ⟨z'', ?_, ⟨x1, x2, ?_⟩, ?_, ?_⟩, fun c hcm => ?_⟩
    · exact (sb.2 _ D.TIz).trans (hk _ _ D.TIz D.TITO D.TIi1 D.TIi2 hTI)
    · exact (sb.2 _ D.TOz).trans TO'
    · exact st1.1.at fun o q => (sb.2 _ (Ne.symm D.zi1)).trans q
    · exact st2.1.at fun o q => (sb.2 _ (Ne.symm D.zi2)).trans q
    · have hlt : c < s.heap.objs.size := by
        have e' : c = z ∨ c = TI ∨ c = TO ∨ c = i1 ∨ c = i2 := by simpa using hcm
        rcases e' with q | q | q | q | q
        · rw [q]; exact hzl
        · rw [q]; exact Heap.lt_size hTI
        · rw [q]; exact Heap.lt_size hTO
        · rw [q]; obtain ⟨_, e1, _⟩ := h1; exact Heap.lt_size e1
        · rw [q]; obtain ⟨_, e2, _⟩ := h2; exact Heap.lt_size e2
      rw [upd_ne (Nat.ne_of_lt hlt)]
      exact (hf c hcm).1
  done := by
    intro X hP hw hK hc i pins s σ H E I hf st hg
    subst hP hw hK
    obtain ⟨hz, hTI, ⟨x0, y0, hTO⟩, h1, h2⟩ := st
    obtain ⟨xs, ys, hqx, hqy, g1, g2, hend⟩ := hg
    obtain ⟨its, rv, p, _⟩ := I.tuple hqx
    obtain ⟨its2, rv2, p2, _⟩ := I.list hqy
    have l1 := rv.length
    have l2 := rv2.length
    have ha : a ≠ i1 := fun e => by
      subst e
      obtain ⟨o1, q1, c1, _⟩ := h1
      obtain ⟨o2, q2, c2, _⟩ := p
      rw [q1] at q2; cases q2
      rw [c1] at c2
      exact absurd (Value.type.inj c2) (by decide)
    have hb : b ≠ i2 := fun e => by
      subst e
      obtain ⟨o1, q1, c1, _⟩ := h2
      obtain ⟨o2, q2, c2, _⟩ := p2.isList
      rw [q1] at q2; cases q2
      rw [c1] at c2
      exact absurd (Value.type.inj c2) (by decide)
    exact wpAny_pyNext_zipD2_end D (Draws.tuple (A := X.A.in1) (I.ok.hd hc) i1 a ha its.toArray) (Draws.list (A := X.A.in1) (I.ok.hd hc) i2 b hb its2.toArray) hz hTI hTO ⟨h1, p⟩ ⟨h2, p2.isList⟩ (by simp; omega) (by simp; omega) (by simp; omega)
      fun h' tk hk => ⟨rfl, I.turnedL (t' := tk) (ch := [z, TI, TO, i1, i2]) (fun c o hb q =>
      hk c o (fun q' => hb (by simp [q'])) (fun q' => hb (by simp [q'])) (fun q' => hb (by simp [q'])) (fun q' => hb (by simp [q'])) q) hf⟩
  self := fun A i s Q E st h => wpAny_pyIter_zip st.1 h
def iZipB (K : PySem.W.Frag) (ta : TA) : TI := fun σ H R => ta σ H fun vs H1 => ∃ a b xs ys, vs = [.ref a, .ref b] ∧ ((SqL K H1 a xs ∧ SqL K H1 b ys ∧ R (Itz K a b) H1) ∨ (SqT K H1 a xs ∧ SqT K H1 b ys ∧ R (RZ.ItzT K a b) H1) ∨ (SqT K H1 a xs ∧ SqL K H1 b ys ∧ R (ItzM K a b) H1))
theorem pi_zipB {X : Cx} {e e2 : Expr} {ta : TA} {p pos tpos : Pos} {elts : List Expr} {kk : Nat} (hg : Gl X "zip") (hm : X.mg "zip" = none) (ha : PA X [e, e2] ta)
    (hs : starEach [e, e2] X.env = (false, eval e X.env) :: starEach [e2] X.env := by rfl) (hpl : (backTo pos (starEach [e2] X.env)).any (·.1) = false := by rfl) :
    PI X (.Tuple elts kk tpos) (.Call (.Name "zip" p) [e, e2] [] pos) (iZipB X.K ta) := by
  refine ⟨fun pins s σ H R I h => ?_⟩
  refine Call_ (ld_blt I hg hm PyProof.Rows.boot_zip (PyProof.Rows.callWith_type1 (thn (ha.run pos pins s σ H _ I h) fun us s1 ⟨vs, H1, I1, r1, q1⟩ => ?_) hs hpl))
  obtain ⟨a, b, xs, ys, ex, q1⟩ := q1
  subst ex
  cases r1 with
  | cons r rr =>
    cases rr with
    | cons r' rr =>
      cases rr
      cases r
      cases r'
      have fresh5 : ∀ c, c ∈ [s1.heap.objs.size + 4, s1.heap.objs.size + 2, s1.heap.objs.size + 3, s1.heap.objs.size, s1.heap.objs.size + 1] → FpOk X pins H1 c := fun c hcm => by
        have e' : c = s1.heap.objs.size + 4 ∨ c = s1.heap.objs.size + 2 ∨ c = s1.heap.objs.size + 3 ∨ c = s1.heap.objs.size ∨ c = s1.heap.objs.size + 1 := by simpa using hcm
        have hle : s1.heap.objs.size ≤ c := by
          rcases e' with z | z | z | z | z
          · rw [z]; exact Nat.le_add_right _ _
          · rw [z]; exact Nat.le_add_right _ _
          · rw [z]; exact Nat.le_add_right _ _
          · rw [z]; exact Nat.le_refl _
          · rw [z]; exact Nat.le_add_right _ _
        exact I1.fpOk hle (I1.hok.fresh hle)
      rcases q1 with ⟨hqx, hqy, q⟩ | ⟨hqx, hqy, q⟩ | ⟨hqx, hqy, q⟩
      · obtain ⟨its, rv, p1, _⟩ := I1.list hqx
        obtain ⟨its2, rv2, p2, _⟩ := I1.list hqy
        refine call_zip_2 p1.isList p2.isList fun h' hz hTI hTO h1 h2 hsz hk => wpAny_pyIter_zip hz ?_
        have I2 : Inv X pins σ H1 { s1 with heap := h' } := I1.kept (t' := s1.toks) hk
        exact ⟨s1.heap.objs.size + 4, [s1.heap.objs.size + 4, s1.heap.objs.size + 2, s1.heap.objs.size + 3, s1.heap.objs.size, s1.heap.objs.size + 1], _, _, H1, rfl, I2, turn_zip (PySem.W.ktu_apart s1.heap.objs.size a b p1.lt p2.lt), ⟨hz, hTI, ⟨_, _, hTO⟩, h1, h2⟩, fresh5, q⟩
      · obtain ⟨its, rv, p1, _⟩ := I1.tuple hqx
        obtain ⟨its2, rv2, p2, _⟩ := I1.tuple hqy
        obtain ⟨o1, ho1, _⟩ := id p1
        obtain ⟨o2, ho2, _⟩ := id p2
        refine RZ.call_zipT (show s1.heap.IsTuple a its.toArray from p1) (show s1.heap.IsTuple b its2.toArray from p2) fun h' hz hTI hTO h1 h2 hsz hk => wpAny_pyIter_zip hz ?_
        have I2 : Inv X pins σ H1 { s1 with heap := h' } := I1.kept (t' := s1.toks) hk
        exact ⟨s1.heap.objs.size + 4, [s1.heap.objs.size + 4, s1.heap.objs.size + 2, s1.heap.objs.size + 3, s1.heap.objs.size, s1.heap.objs.size + 1], _, _, H1, rfl, I2, RZ.turn_zipT (PySem.W.ktu_apart s1.heap.objs.size a b (Heap.lt_size ho1) (Heap.lt_size ho2)), ⟨hz, hTI, ⟨_, _, hTO⟩, h1, h2⟩, fresh5, q⟩
      · obtain ⟨its, rv, p1, _⟩ := I1.tuple hqx
        obtain ⟨its2, rv2, p2, _⟩ := I1.list hqy
        obtain ⟨o1, ho1, _⟩ := id p1
        refine zip_begins2 (begins_tuple a its.toArray) (begins_list b its2.toArray) (show s1.heap.IsTuple a its.toArray from p1) p2.isList fun h' hz hTI hTO h1 h2 hsz hk => wpAny_pyIter_zip hz ?_
        have I2 : Inv X pins σ H1 { s1 with heap := h' } := I1.kept (t' := s1.toks) hk
        refine ⟨s1.heap.objs.size + 4, [s1.heap.objs.size + 4, s1.heap.objs.size + 2, s1.heap.objs.size + 3, s1.heap.objs.size, s1.heap.objs.size + 1], _, _, H1, rfl, I2,
          turn_zipM (zip_sep2 (N := s1.heap.objs.size) (fp1 := [a]) (fp2 := [b]) (fun c hc => ?_) (fun c hc => ?_)), ⟨hz, hTI, ⟨_, _, hTO⟩, ⟨_, h1, rfl, rfl⟩, ⟨_, h2, rfl, rfl⟩⟩, fresh5, q⟩
        · rw [List.mem_singleton.mp hc]; exact Heap.lt_size ho1
        · rw [List.mem_singleton.mp hc]; exact p2.lt
end ZU
namespace Z
open PySem PySem.Spec PyProof.Rows L2
section
variable {X : Cx} {W : Wi} {pos : Pos}
/-! ### name.index(e), the name's list frozen -/
def indD (ds : List D) (e : D) : Option D :=
  if SeqAt.shaped (.list (toPys ds)) && SeqAt.shaped (toPy e) then ((toPys ds).findIdx? fun z => PyData.eqv z (toPy e)).map fun j => .int (j : Nat) else none
theorem indD_some {ds : List D} {e z : D} (h : indD ds e = some z) : SeqAt.shaped (.list (toPys ds)) = true ∧ SeqAt.shaped (toPy e) = true ∧ ∃ (j : Nat) (u : PyData), z = .int (j : Nat) ∧ (toPys ds)[j]? = some u ∧ PyData.eqv u (toPy e) = true ∧ ∀ (m : Nat) (u' : PyData), m < j → (toPys ds)[m]? = some u' → PyData.eqv u' (toPy e) = false := by
  unfold indD at h
  split at h
  · rename_i c
    rw [Bool.and_eq_true] at c
    cases hj : (toPys ds).findIdx? fun z => PyData.eqv z (toPy e) with
    | none => rw [hj] at h; cases h
    | some j =>
      rw [hj] at h
      cases h
      obtain ⟨h1, h2, h3⟩ := List.findIdx?_eq_some_iff_getElem.mp hj
      refine ⟨c.1, c.2, j, _, rfl, List.getElem?_eq_getElem h1, h2, fun m u' hm hu => ?_⟩
      have hml : m < (toPys ds).length := Nat.lt_trans hm h1
      rw [List.getElem?_eq_getElem hml] at hu
      cases hu
      have := h3 m hm
      simpa using this
  · cases h
def kInd (ds : List D) : D → En → RE := fun e δ2 => ofO (indD ds e) δ2
def dInd (i : Nat) (f : Den) : Den := fun δ => match δ[i]? with
  | some (.va (.lst ds)) => bindE (f δ) (kInd ds)
  | _ => .bad
theorem me_ind (hu : X.A.units + 65 < cLine) {i : Nat} {x : Str} {e : Expr} {f : Den} {p apos cpos : Pos} (hx : PE X (.Name x p) (tVar i)) (he : PE X e (tM X.K W f))
    (hfew : ((backTo cpos (starEach [e] X.env)).all (fun x => !x.1) && (backToKw cpos (keywordEach [] X.env)).all (fun x => x.1.isSome)
      && decide ([e].length + ([] : List Keyword).length + (if ([] : List Keyword).isEmpty then 0 else 1) < 30)) = true)
    (hline : (apos.endLine == cpos.line) = true) (hs : starEach [e] X.env = [(false, eval e X.env)]) : PE X (.Call (.Attribute (.Name x p) "index" apos) [e] [] cpos) (tM X.K W (dInd i f)) :=
  PE_imp (pe_bm PySem.F.plainAttrs_list PySem.F.slot_list_index PySem.F.type_list_index (mt_indexD hu) hx (pa_cons he pa_nil hs) rfl hfew hline hs rfl) fun σ H Q ⟨G, δ, H0, R, q⟩ => by
    unfold dInd at q
    split at q
    · rename_i ds e0
      obtain ⟨v, h1, r⟩ := R.va_at e0
      cases r with
      | lst hl rs =>
        rename_i a xs
        refine ⟨.ref a, h1, .inl ⟨rfl, xs, R.hs.seq hl⟩, G, δ, H0, R, PoE.bind q fun d δ1 w H01 H1 R1 s1 r1 h2 => ?_⟩
        obtain ⟨z, hz, h3⟩ := ofO_some h2
        obtain ⟨c1, c2, j, u, rfl, hj, he, hn⟩ := indD_some hz
        have rl : Rep X.K H01 (.ref a) (.lst ds) := (Rep.lst hl rs).mono s1
        have dl : Dp X.K H01 (.ref a) (.list (toPys ds)) := by
          have := rl.dp (by unfold toPy; exact SeqAt.canLay_of_shaped c1)
          unfold toPy at this
          exact this
        exact ⟨a, w, toPy d, toPys ds, j, u, rfl, rfl, Dp.up R1.hs dl, Dp.up R1.hs (r1.dp (SeqAt.canLay_of_shaped c2)), c1, c2, hj, he, hn, h3.val R1 (.int _)⟩
    · exact q.elim
end
end Z

namespace Z
open PySem PySem.Spec PyProof.Rows L2
section
variable {X : Cx} {W : Wi} {pos : Pos}
/-! ### zip, enumerate -/
def zipD : List D → List D → List D
  | a :: as, b :: bs => .tup [a, b] :: zipD as bs
  | _, _ => []
theorem zipD_len : ∀ (as bs : List D), (zipD as bs).length = min as.length bs.length
  | [], _ => by unfold zipD; simp
  | _ :: _, [] => by unfold zipD; simp
  | a :: as, b :: bs => by unfold zipD; rw [List.length_cons, zipD_len as bs, List.length_cons, List.length_cons]; omega
theorem zipD_get : ∀ {as bs : List D} {i : Nat}, i < (zipD as bs).length → ∃ x y, as[i]? = some x ∧ bs[i]? = some y ∧ (zipD as bs)[i]? = some (.tup [x, y])
  | [], _, i, h => by unfold zipD at h; exact absurd h (Nat.not_lt_zero _)
  | _ :: _, [], i, h => by unfold zipD at h; exact absurd h (Nat.not_lt_zero _)
  | a :: as, b :: bs, 0, h => ⟨a, b, rfl, rfl, rfl⟩
  | a :: as, b :: bs, i + 1, h => by
    unfold zipD at h
    obtain ⟨x, y, e1, e2, e3⟩ := zipD_get (as := as) (bs := bs) (i := i) (by simpa using h)
    exact ⟨x, y, by simpa using e1, by simpa using e2, by unfold zipD; simpa using e3⟩
theorem yields_zipL {K : PySem.W.Frag} {He H0 : Hp} {a b : Addr} {xs ys : List V} {ds es : List D} (ha : SqL K H0 a xs) (hb : SqL K H0 b ys) (ra : Reps K H0 xs ds) (rb : Reps K H0 ys es) : Yields K (Itz K a b) He H0 (zipD ds es) where
  go := fun i H s _ hi => by
    obtain ⟨x, y, e1, e2, _⟩ := zipD_get hi
    obtain ⟨v, e3, _⟩ := ra.get e1
    obtain ⟨w, e4, _⟩ := rb.get e2
    exact ⟨xs, ys, v, w, s.seq ha, s.seq hb, e3, e4⟩
  stop := fun i H s _ hi => ⟨xs, ys, s.seq ha, s.seq hb, by
    rw [zipD_len] at hi
    rw [ra.length, rb.length]
    omega⟩
  yld := fun i H x H' Hc s0 s _ hi y => by
    obtain ⟨T, u, v, rfl, hT, rfl, f1, f2⟩ := y
    obtain ⟨dx, dy, e1, e2, e5⟩ := zipD_get hi
    obtain ⟨v1, e3, r1⟩ := ra.get e1
    obtain ⟨w1, e4, r2⟩ := rb.get e2
    have g1 := f1 xs (s.seq (s0.seq ha))
    have g2 := f2 ys (s.seq (s0.seq hb))
    rw [e3] at g1; cases g1
    rw [e4] at g2; cases g2
    have g := Gr.new (o := .tup [u, v]) s hT
    exact ⟨_, _, e5, g, .tup (.inl (.inl upd_same)) (.cons (r1.mono (s0.trans g.h0)) (.cons (r2.mono (s0.trans g.h0)) .nil))⟩
theorem yields_zipT {K : PySem.W.Frag} {He H0 : Hp} {a b : Addr} {xs ys : List V} {ds es : List D} (ha : SqT K H0 a xs) (hb : SqT K H0 b ys) (ra : Reps K H0 xs ds) (rb : Reps K H0 ys es) : Yields K (RZ.ItzT K a b) He H0 (zipD ds es) where
  go := fun i H s _ hi => by
    obtain ⟨x, y, e1, e2, _⟩ := zipD_get hi
    obtain ⟨v, e3, _⟩ := ra.get e1
    obtain ⟨w, e4, _⟩ := rb.get e2
    exact ⟨xs, ys, v, w, Same.seqT s ha, Same.seqT s hb, e3, e4⟩
  stop := fun i H s _ hi => ⟨xs, ys, Same.seqT s ha, Same.seqT s hb, by
    rw [zipD_len] at hi
    rw [ra.length, rb.length]
    omega⟩
  yld := fun i H x H' Hc s0 s _ hi y => by
    obtain ⟨T, u, v, rfl, hT, rfl, f1, f2⟩ := y
    obtain ⟨dx, dy, e1, e2, e5⟩ := zipD_get hi
    obtain ⟨v1, e3, r1⟩ := ra.get e1
    obtain ⟨w1, e4, r2⟩ := rb.get e2
    have g1 := f1 xs (Same.seqT s (Same.seqT s0 ha))
    have g2 := f2 ys (Same.seqT s (Same.seqT s0 hb))
    rw [e3] at g1; cases g1
    rw [e4] at g2; cases g2
    have g := Gr.new (o := .tup [u, v]) s hT
    exact ⟨_, _, e5, g, .tup (.inl (.inl upd_same)) (.cons (r1.mono (s0.trans g.h0)) (.cons (r2.mono (s0.trans g.h0)) .nil))⟩
theorem yields_zipM {K : PySem.W.Frag} {He H0 : Hp} {a b : Addr} {xs ys : List V} {ds es : List D} (ha : SqT K H0 a xs) (hb : SqL K H0 b ys) (ra : Reps K H0 xs ds) (rb : Reps K H0 ys es) : Yields K (ZU.ItzM K a b) He H0 (zipD ds es) where
  go := fun i H s _ hi => by
    obtain ⟨x, y, e1, e2, _⟩ := zipD_get hi
    obtain ⟨v, e3, _⟩ := ra.get e1
    obtain ⟨w, e4, _⟩ := rb.get e2
    exact ⟨xs, ys, v, w, Same.seqT s ha, s.seq hb, e3, e4⟩
  stop := fun i H s _ hi => ⟨xs, ys, Same.seqT s ha, s.seq hb, by
    rw [zipD_len] at hi
    rw [ra.length, rb.length]
    omega⟩
  yld := fun i H x H' Hc s0 s _ hi y => by
    obtain ⟨T, u, v, rfl, hT, rfl, f1, f2⟩ := y
    obtain ⟨dx, dy, e1, e2, e5⟩ := zipD_get hi
    obtain ⟨v1, e3, r1⟩ := ra.get e1
    obtain ⟨w1, e4, r2⟩ := rb.get e2
    have g1 := f1 xs (Same.seqT s (Same.seqT s0 ha))
    have g2 := f2 ys (s.seq (s0.seq hb))
    rw [e3] at g1; cases g1
    rw [e4] at g2; cases g2
    have g := Gr.new (o := .tup [u, v]) s hT
    exact ⟨_, _, e5, g, .tup (.inl (.inl upd_same)) (.cons (r1.mono (s0.trans g.h0)) (.cons (r2.mono (s0.trans g.h0)) .nil))⟩
def enuD : Nat → List D → List D
  | _, [] => []
  | n, d :: ds => .tup [.int (n : Nat), d] :: enuD (n + 1) ds
theorem enuD_len : ∀ (n : Nat) (ds : List D), (enuD n ds).length = ds.length
  | _, [] => rfl
  | n, d :: ds => by unfold enuD; rw [List.length_cons, enuD_len, List.length_cons]
theorem enuD_get : ∀ {n i : Nat} {ds : List D} {d : D}, ds[i]? = some d → (enuD n ds)[i]? = some (.tup [.int ((n + i : Nat) : Int), d])
  | _, _, [], _, h => by simp at h
  | n, 0, d :: ds, _, h => by simp at h; subst h; rfl
  | n, i + 1, d :: ds, _, h => by
    unfold enuD
    rw [List.getElem?_cons_succ, enuD_get (by simpa using h)]
    have : n + 1 + i = n + (i + 1) := by omega
    rw [this]
theorem yields_enum {K : PySem.W.Frag} {He H0 : Hp} {a : Addr} {xs : List V} {ds : List D} (ha : SqL K H0 a xs) (ra : Reps K H0 xs ds) : Yields K (Ite K a) He H0 (enuD 0 ds) where
  go := fun i H s _ hi => by
    rw [enuD_len] at hi
    obtain ⟨v, e3, _⟩ := ra.get (List.getElem?_eq_getElem hi)
    exact ⟨xs, v, s.seq ha, e3⟩
  stop := fun i H s _ hi => ⟨xs, s.seq ha, by rw [enuD_len] at hi; rw [ra.length]; exact Nat.le_of_eq hi.symm⟩
  yld := fun i H x H' Hc s0 s _ hi y => by
    rw [enuD_len] at hi
    obtain ⟨T, u, rfl, hT, rfl, f1⟩ := y
    obtain ⟨v, e3, r1⟩ := ra.get (List.getElem?_eq_getElem hi)
    have g1 := f1 xs (s.seq (s0.seq ha))
    rw [e3] at g1; cases g1
    have g := Gr.new (o := .tup [.int (i : Nat), u]) s hT
    refine ⟨_, _, enuD_get (List.getElem?_eq_getElem hi), g, ?_⟩
    rw [Nat.zero_add]
    exact .tup (.inl (.inl upd_same)) (.cons (.int _) (.cons (r1.mono (s0.trans g.h0)) .nil))
theorem yields_enumT {K : PySem.W.Frag} {He H0 : Hp} {a : Addr} {xs : List V} {ds : List D} (ha : SqT K H0 a xs) (ra : Reps K H0 xs ds) : Yields K (ZQ.IteT K a) He H0 (enuD 0 ds) where
  go := fun i H s _ hi => by
    rw [enuD_len] at hi
    obtain ⟨v, e3, _⟩ := ra.get (List.getElem?_eq_getElem hi)
    exact ⟨xs, v, Same.seqT s ha, e3⟩
  stop := fun i H s _ hi => ⟨xs, Same.seqT s ha, by rw [enuD_len] at hi; rw [ra.length]; exact Nat.le_of_eq hi.symm⟩
  yld := fun i H x H' Hc s0 s _ hi y => by
    rw [enuD_len] at hi
    obtain ⟨T, u, rfl, hT, rfl, f1⟩ := y
    obtain ⟨v, e3, r1⟩ := ra.get (List.getElem?_eq_getElem hi)
    have g1 := f1 xs (Same.seqT s (Same.seqT s0 ha))
    rw [e3] at g1; cases g1
    have g := Gr.new (o := .tup [.int (i : Nat), u]) s hT
    refine ⟨_, _, enuD_get (List.getElem?_eq_getElem hi), g, ?_⟩
    rw [Nat.zero_add]
    exact .tup (.inl (.inl upd_same)) (.cons (.int _) (.cons (r1.mono (s0.trans g.h0)) .nil))
def zipL : List D → Option (List D)
  | [.lst a, .lst b] => some (zipD a b)
  | [.tup a, .tup b] => some (zipD a b)
  | [.tup a, .lst b] => some (zipD a b)
  | _ => none
def enuL : List D → Option (List D)
  | [.lst a] => some (enuD 0 a)
  | [.tup a] => some (enuD 0 a)
  | _ => none
/-- what is walked, by the values of the arguments -/
def iLs (g : List D → Option (List D)) (fs : List Den) : En → RI := fun δ => match dArgs fs δ with
  | .ok ds δ1 => (match g ds with
    | some es => .ok es δ1
    | none => .bad)
  | .rz c δ => .rz c δ
  | .bad => .bad
theorem mi_zip {a b : Expr} {f g : Den} {p tpos : Pos} {elts : List Expr} {kk : Nat} (hg : Gl X "zip") (hm : X.mg "zip" = none) (ha : PA X [a, b] (tA X.K W (dArgs [f, g]))) (hs : starEach [a, b] X.env = (false, eval a X.env) :: starEach [b] X.env) (hs2 : starEach [b] X.env = [(false, eval b X.env)]) :
    PI X (.Tuple elts kk tpos) (.Call (.Name "zip" p) [a, b] [] pos) (tI X.K W (iLs zipL [f, g])) :=
  PI_imp (ZU.pi_zipB hg hm ha hs (by rw [hs2]; rfl)) fun σ H R ⟨G, δ, H0, Rr, q⟩ => ⟨G, δ, H0, Rr, by
    unfold iLs at q
    cases e : dArgs [f, g] δ with
    | bad => rw [e] at q; exact q
    | rz c δ1 => rw [e] at q; exact q
    | ok ds δ1 =>
      rw [e] at q
      intro vs H1 H' R1 s1 r1
      have l := dArgs_len e
      match ds, l, r1, q with
      | [d, d2], _, r1, q =>
        obtain ⟨v, v2, rfl, rv, rv2⟩ := reps2 r1
        cases rv with
        | lst h1 q1 =>
          cases rv2 with
          | lst h2 q2 => exact ⟨_, _, _, _, rfl, .inl ⟨R1.hs.seq h1, R1.hs.seq h2, q _ H1 H' R1 s1 (yields_zipL h1 h2 q1 q2)⟩⟩
          | _ => exact q.elim
        | tup h1 q1 =>
          cases rv2 with
          | tup h2 q2 => exact ⟨_, _, _, _, rfl, .inr (.inl ⟨Same.seqT R1.hs h1, Same.seqT R1.hs h2, q _ H1 H' R1 s1 (yields_zipT h1 h2 q1 q2)⟩)⟩
          | lst h2 q2 => exact ⟨_, _, _, _, rfl, .inr (.inr ⟨Same.seqT R1.hs h1, R1.hs.seq h2, q _ H1 H' R1 s1 (yields_zipM h1 h2 q1 q2)⟩)⟩
          | _ => exact q.elim
        | _ => exact q.elim⟩
theorem mi_enum {a : Expr} {f : Den} {p tpos : Pos} {elts : List Expr} {kk : Nat} (hg : Gl X "enumerate") (hm : X.mg "enumerate" = none) (ha : PA X [a] (tA X.K W (dArgs [f]))) (hs : starEach [a] X.env = [(false, eval a X.env)]) :
    PI X (.Tuple elts kk tpos) (.Call (.Name "enumerate" p) [a] [] pos) (tI X.K W (iLs enuL [f])) :=
  PI_imp (ZQ.pi_enumA hg hm ha hs) fun σ H R ⟨G, δ, H0, Rr, q⟩ => ⟨G, δ, H0, Rr, by
    unfold iLs at q
    cases e : dArgs [f] δ with
    | bad => rw [e] at q; exact q
    | rz c δ1 => rw [e] at q; exact q
    | ok ds δ1 =>
      rw [e] at q
      intro vs H1 H' R1 s1 r1
      have l := dArgs_len e
      match ds, l, r1, q with
      | [d], _, r1, q =>
        obtain ⟨v, rfl, rv⟩ := reps1 r1
        cases rv with
        | lst h1 q1 => exact ⟨_, _, rfl, .inl ⟨R1.hs.seq h1, q _ H1 H' R1 s1 (yields_enum h1 q1)⟩⟩
        | tup h1 q1 => exact ⟨_, _, rfl, .inr ⟨Same.seqT R1.hs h1, q _ H1 H' R1 s1 (yields_enumT h1 q1)⟩⟩
        | _ => exact q.elim⟩
/-! ### range of three -/
def rngC (lo c : Int) : Nat → List D
  | 0 => []
  | n + 1 => .int lo :: rngC (lo + c) c n
theorem rngC_len : ∀ (lo c : Int) (n : Nat), (rngC lo c n).length = n
  | lo, c, 0 => rfl
  | lo, c, n + 1 => by rw [rngC, List.length_cons, rngC_len]
theorem rngC_get : ∀ (lo c : Int) (n i : Nat), i < n → (rngC lo c n)[i]? = some (.int (lo + (i : Nat) * c))
  | lo, c, n + 1, 0, _ => by rw [rngC]; simp
  | lo, c, n + 1, i + 1, h => by
    rw [rngC, List.getElem?_cons_succ, rngC_get (lo + c) c n i (by omega)]
    congr 2
    rw [Int.natCast_add, Int.add_mul]
    omega
theorem yields_rngC {K : PySem.W.Frag} {He H0 : Hp} (lo c : Int) (n : Nat) : Yields K (Itc lo c n) He H0 (rngC lo c n) where
  go := fun i H s _ hi => by rw [rngC_len] at hi; exact hi
  stop := fun i H s _ hi => by rw [rngC_len] at hi; exact Nat.le_of_eq hi.symm
  yld := fun i H x H' Hc s0 s _ hi y => by
    obtain ⟨rfl, rfl⟩ := y
    rw [rngC_len] at hi
    exact ⟨_, Hc, rngC_get lo c n i hi, Gr.refl s, .int _⟩
def rgOk (i j c : Int) : Bool := decide (c ≠ 0) && decide (c.natAbs < 1073741824) && Builtin.Range.small i j c
def rng3L : List D → Option (List D)
  | [.int i, .int j, .int c] => if rgOk i j c then some (rngC i c (Builtin.Range.rangeSize i j c).toNat) else none
  | _ => none
theorem mi_rng3 {tg a b c : Expr} {f g h : Den} {p : Pos} (hg : Gl X "range") (hm : X.mg "range" = none) (ha : PA X [a, b, c] (tA X.K W (dArgs [f, g, h]))) (hs : starEach [a, b, c] X.env = (false, eval a X.env) :: starEach [b, c] X.env) (hpl : (backTo pos (starEach [b, c] X.env)).any (·.1) = false) :
    PI X tg (.Call (.Name "range" p) [a, b, c] [] pos) (tI X.K W (iLs rng3L [f, g, h])) :=
  PI_imp (pi_range3 hg hm ha hs hpl) fun σ H R ⟨G, δ, H0, Rr, q⟩ => ⟨G, δ, H0, Rr, by
    unfold iLs at q
    cases e : dArgs [f, g, h] δ with
    | bad => rw [e] at q; exact q
    | rz c δ1 => rw [e] at q; exact q
    | ok ds δ1 =>
      rw [e] at q
      intro vs H1 H' R1 s1 r1
      have l := dArgs_len e
      match ds, l, r1, q with
      | [d, d2, d3], _, r1, q =>
        cases r1 with
        | cons v1 r1 =>
          cases r1 with
          | cons v2 r1 =>
            cases r1 with
            | cons v3 r1 =>
              cases r1
              cases d with
              | int i =>
                cases d2 with
                | int j =>
                  cases d3 with
                  | int k =>
                    simp only [rng3L] at q
                    split at q
                    · rename_i es he
                      split at he
                      · rename_i ok
                        cases he
                        unfold rgOk at ok
                        simp only [Bool.and_eq_true, decide_eq_true_eq] at ok
                        cases v1
                        cases v2
                        cases v3
                        exact ⟨i, j, k, _, rfl, ⟨ok.1.1, ok.1.2, ok.2, rangeSize_toNat i j k⟩, q _ H1 H' R1 s1 (yields_rngC i k _)⟩
                      · cases he
                    · exact q.elim
                  | _ => exact q.elim
                | _ => exact q.elim
              | _ => exact q.elim⟩
/-! ### what is never reached -/
def dBad : Den := fun _ => .bad
def fBad : FDen := fun _ => .bad
def sBad : SDen := fun _ => .bad
theorem me_bad {e : Expr} : PE X e (tM X.K W dBad) := ⟨fun _ _ _ _ _ _ ⟨_, _, _, _, q⟩ => q.elim⟩
theorem mt_bad {e : Expr} : PT X e (tT X.K W dBad) := ⟨fun _ _ _ _ _ _ ⟨_, _, _, _, q⟩ => q.elim⟩
theorem ms_bad {e : Stmt} : PS X e (sM X.K W sBad) := ⟨fun _ _ _ _ _ _ ⟨_, _, _, _, q⟩ => q.elim⟩
/-! ### new lists -/
def catK (x y : D) (δ : En) : RF :=
  match x, y with
  | .lst a, .lst b => if a.length + b.length ≤ 1000000 then .ok (.lst (a ++ b)) δ else .bad
  | _, _ => .bad
def fAdd (fa fb : Den) : FDen := fun δ => bindEF (fa δ) fun x δ1 => bindEF (fb δ1) fun y δ2 => catK x y δ2
theorem mf_add {a b : Expr} {fa fb : Den} (ha : PE X a (tM X.K W fa)) (hb : PE X b (tM X.K W fb)) : PE X (.BinOp a .Add b pos) (tF X.K W (fAdd fa fb)) :=
  PE_imp (pe_op op_catL ha hb) fun σ H Q ⟨G, δ, H0, R, h⟩ => ⟨G, δ, H0, R, PoE.bindF h fun d δ1 v H01 H1 R1 s1 r1 h1 => ⟨G, δ1, H01, R1, PoE.bindF h1 fun e δ2 w H02 H2 R2 s2 r2 h2 => by
    have r1' := r1.mono s2
    unfold catK at h2
    split at h2
    · split at h2
      · rename_i c
        cases r1' with
        | lst h1 q1 =>
          cases r2 with
          | lst h3 q3 => exact ⟨_, _, _, _, rfl, rfl, R2.hs.seq h1, R2.hs.seq h3, by rw [q1.length, q3.length]; exact sz_le c, fun p hp => h2.laid R2 hp ⟨_, upd_same, q1.append q3⟩⟩
      · exact h2.elim
    · exact h2.elim⟩⟩
def listK (x : D) (δ : En) : RF :=
  match x with
  | .lst a => .ok (.lst a) δ
  | .tup a => .ok (.lst a) δ
  | _ => .bad
def fList (fa : Den) : FDen := fun δ => bindEF (fa δ) fun x δ1 => listK x δ1
theorem mf_list {a : Expr} {fa : Den} {p : Pos} (hg : Gl X "list") (hm : X.mg "list" = none) (ha : PE X a (tM X.K W fa)) (he : starEach [a] X.env = [(false, eval a X.env)]) : PE X (.Call (.Name "list" p) [a] [] pos) (tF X.K W (fList fa)) :=
  PE_imp (pe_callTy (T := "list") call_list_of hg hm PyProof.Rows.boot_list (pa_cons ha pa_nil he) (by decide) (by decide) he rfl) fun σ H Q ⟨G, δ, H0, R, h⟩ => ⟨G, δ, H0, R, PoE.bindF h fun d δ1 v H1 H' R1 s1 r1 h1 => by
    unfold listK at h1
    split at h1
    · cases r1 with
      | lst q rs => exact ⟨_, _, rfl, .inl (R1.hs.seq q), fun p hp => h1.laid R1 hp ⟨_, upd_same, rs⟩⟩
    · cases r1 with
      | tup q rs => exact ⟨_, _, rfl, .inr (Same.seqT R1.hs q), fun p hp => h1.laid R1 hp ⟨_, upd_same, rs⟩⟩
    · exact h1.elim⟩
/-! ### what is given back as the caller's own -/
def retFK : RF → RS
  | .ok o δ => .ro o δ
  | .rz c δ => .rz c δ
  | .bad => .bad
def sRetF (f : FDen) : SDen := fun δ => retFK (f δ)
theorem ms_retF {e : Expr} {f : FDen} (he : PE X e (tF X.K W f)) : PS X (.Return (some e) pos) (sM X.K W (sRetF f)) :=
  PS_imp (ps_ret he) fun D σ H ⟨G, δ, H0, R, q⟩ => ⟨G, δ, H0, R, by
    unfold sRetF at q
    cases e : f δ with
    | bad => rw [e] at q; exact q
    | rz c δ1 => rw [e] at q; exact fun cls dd H1 H' R1 s x => q cls dd σ H1 H' R1 s x
    | ok o δ1 => rw [e] at q; exact fun a H1 H' R1 s n ne w nw => q a σ H1 H' R1 s n ne w nw⟩
def retOK (s : Option Sl) (i : Nat) (δ : En) : RS :=
  match s with
  | some (.ow o) => .ro o (δ.set i .no)
  | _ => .bad
def sRetO (i : Nat) : SDen := fun δ => retOK δ[i]? i δ
theorem ms_retO {i : Nat} {x : Str} {p : Pos} (hx : PE X (.Name x p) (tVar i)) : PS X (.Return (some (.Name x p)) pos) (sM X.K W (sRetO i)) :=
  PS_imp (ps_ret hx) fun D σ H ⟨G, δ, H0, R, q⟩ => by
    unfold sRetO retOK at q
    split at q
    · rename_i o e
      obtain ⟨a, hσ, n0, ne, w⟩ := R.own_at e
      have R' := R.fgt1 i
      unfold Z.fgt1 at R'
      rw [e] at R'
      refine ⟨.ref a, hσ, q a σ H0 H R' (Same.refl _) n0 ne w fun j s h1 h2 h3 => ?_⟩
      have hl : i < δ.length := (List.getElem?_eq_some_iff.mp e).1
      by_cases hj : i = j
      · subst hj
        rw [List.getElem?_set_self hl] at h1
        cases h1
        cases h2
      · rw [List.getElem?_set_ne hj] at h1
        exact R.dj i j _ s a hj e h1 rfl h2 hσ h3
    · exact q.elim
/-- a call whose end is the caller's own -/
def ofDF (r : RD) (δ : En) : RF :=
  match r with
  | .ow o => .ok o δ
  | .rz c => .rz c δ
  | _ => .bad
def fCall (g : List D → RD) (fs : List Den) : FDen := fun δ => bindAF (dArgs fs δ) fun ds δ1 => ofDF (g ds) δ1
theorem mf_call {CX : CXT} {k : Nat} {f : Addr} {fd : FuncData} {ps : List Str} {n : Nat} {ct : Nat → Addr} {x : Str} {p : Pos} {e : Expr} {es : List Expr} {g : List D → RD} {fs : List Den}
    (F : FnOk X.prog X.w X.K X.mg X.base CX k f fd ps (spD X.K ct n g)) (hr : Room k X.A) (hg : Gl X x) (hm : X.mg x = some (.ref f)) (hk : PySem.W.keepIn X.K (.ref f) = true) (hb : Binds X.K fd ps []) (hx : ∀ σ, PassesAt CX X σ (WE W.w σ)) (hdb : (x == ("__debug__" : Str)) = false)
    (ha : PA X (e :: es) (tA X.K W (dArgs fs))) (hl : fs.length = n) (hct : W.ct = ct)
    (he : starEach (e :: es) X.env = (false, eval e X.env) :: starEach es X.env) (hpl : (backTo pos (starEach es X.env)).any (·.1) = false) : PE X (.Call (.Name x p) (e :: es) [] pos) (tF X.K W (fCall g fs)) := by
  refine PE_imp (pe_callS F hr hg hm hk hb hx ha hdb he hpl) fun σ H Q ⟨G, δ, H0, R, q⟩ => ⟨G, δ, H0, R, ?_⟩
  unfold fCall at q
  cases eA : dArgs fs δ with
  | bad => rw [eA] at q; exact q
  | rz c δ1 => rw [eA] at q; exact q
  | ok ds δ1 =>
    rw [eA] at q
    intro vs H1 H' R1 s1 r1
    refine ⟨H1, ds, R1.hs, r1, by rw [dArgs_len eA, hl], ?_⟩
    have q : PoF X.K W G σ H0 (ofDF (g ds) δ1) Q := q
    cases hg : g ds with
    | ok d => rw [hg] at q; exact q.elim
    | ow o =>
      rw [hg] at q
      exact fun a H2 H'' gr n n0 ow => q a H2 H'' (R1.grow gr) (s1.trans gr.h0) n0 (R1.he_none n) ow (R1.own_ne n)
    | okp d o => rw [hg] at q; exact q.elim
    | owp d o => rw [hg] at q; exact q.elim
    | rz c => rw [hg] at q; exact fun cls dd H2 H'' gr x => q cls dd H2 H'' (R1.grow gr) (s1.trans gr.h0) (by rw [hct]; exact x)
    | bad => rw [hg] at q; exact q.elim
/-! ### a call that writes at what the caller owns -/
/-- growth that may write at a -/
structure GrP (a : Addr) (H0 H H0' H' : Hp) : Prop where
  hs : ∀ b u, b ≠ a → H b = some u → H' b = some u
  h0 : Same H0 H0'
  s' : Same H0' H'
  hn : ∀ b, H b ≠ none → H0' b = H0 b
def reOwn (s : Sl) (o' : O) : Sl := match s with
  | .pi _ => .pi o'
  | _ => .ow o'
theorem Rl.growP {K : PySem.W.Frag} {G : Gh} {δ : En} {σ : L2.St} {H0 H H0' H' : Hp} {i : Nat} {a : Addr} {o o' : O} (R : Rl K G δ σ H0 H) (h : ownAt δ i = some o) (hσ : σ[i]? = some (some (V.ref a))) (g : GrP a H0 H H0' H') (w' : OwnAt K H0' H' a o') :
    Rl K G (setOwn δ i o') σ H0' H' := by
  obtain ⟨a', hσ', n0, ne, w⟩ := R.owned h
  rw [hσ] at hσ'; cases hσ'
  have ha : H a ≠ none := w.some_
  obtain ⟨s, hi, hs, e'⟩ : ∃ s, δ[i]? = some s ∧ isOwn s = true ∧ setOwn δ i o' = δ.set i (reOwn s o') := by
    unfold ownAt at h
    unfold setOwn
    split at h
    · rename_i e; exact ⟨_, e, rfl, rfl⟩
    · rename_i e; exact ⟨_, e, rfl, rfl⟩
    · cases h
  rw [e']
  have hl : i < δ.length := (List.getElem?_eq_some_iff.mp hi).1
  have own' : isOwn (reOwn s o') = true := by cases s <;> rfl
  have heH : ∀ b, G.He b ≠ none → H b ≠ none := fun b e q => e (R.he.free q)
  refine ⟨g.s', fun b w e => g.hs b w (ne_of_none e ne) (R.he b w e), R.hf.trans g.h0, fun b e => by rw [g.hn b (heH b e), R.hn b e], by rw [List.length_set, R.len], fun j t x h1 h2 => ?_, fun j k sa sb c ne' e1 e2 o1 o2 f1 f2 => ?_, fun j c hp => ?_⟩
  · by_cases hj : i = j
    · subst hj
      rw [List.getElem?_set_self hl] at h1
      cases h1
      rw [hσ] at h2; cases h2
      have q := R.sl i s _ hi hσ
      cases s with
      | no => cases hs
      | va d => cases hs
      | ow o => exact ⟨a, rfl, by rw [g.hn a ha]; exact n0, ne, w'⟩
      | pi o =>
        obtain ⟨c, e, _, _, _, p⟩ := q
        cases e
        exact ⟨a, rfl, by rw [g.hn a ha]; exact n0, ne, w', p⟩
    · rw [List.getElem?_set_ne hj] at h1
      have q := R.sl j t x h1 h2
      have nea : ∀ c, isOwn t = true → x = some (.ref c) → c ≠ a := fun c ho hx z => by
        subst hx z
        exact R.dj i j _ t c hj hi h1 hs ho hσ h2
      have key : ∀ {c : Addr} {o : O}, c ≠ a → H0 c = none → OwnAt K H0 H c o → H0' c = none ∧ OwnAt K H0' H' c o := fun {c o} hc n w => by
        have ne := w.some_
        refine ⟨by rw [g.hn c ne, n], w.mono g.h0 ?_⟩
        cases q : H c with
        | none => exact absurd q ne
        | some z => exact g.hs c z hc q
      cases t with
      | no => trivial
      | va d => obtain ⟨v, e, r⟩ := q; exact ⟨v, e, r.mono g.h0⟩
      | ow o => obtain ⟨c, e, n, f, w⟩ := q; have k := key (nea c rfl e) n w; exact ⟨c, e, k.1, f, k.2⟩
      | pi o => obtain ⟨c, e, n, f, w, p⟩ := q; have k := key (nea c rfl e) n w; exact ⟨c, e, k.1, f, k.2, p⟩
  · have key : ∀ {j : Nat} {t : Sl}, (δ.set i (reOwn s o'))[j]? = some t → isOwn t = true → ∃ t', δ[j]? = some t' ∧ isOwn t' = true := fun {j t} e o => by
      by_cases hj : i = j
      · subst hj; exact ⟨s, hi, hs⟩
      · rw [List.getElem?_set_ne hj] at e; exact ⟨t, e, o⟩
    obtain ⟨s1, q1, p1⟩ := key e1 o1
    obtain ⟨s2, q2, p2⟩ := key e2 o2
    exact R.dj j k s1 s2 c ne' q1 q2 p1 p2 f1 f2
  · obtain ⟨o, e1, e2⟩ := R.pn j c hp
    by_cases hj : i = j
    · subst hj
      rw [hi] at e1
      cases e1
      exact ⟨o', by rw [List.getElem?_set_self hl]; rfl, e2⟩
    · exact ⟨o, by rw [List.getElem?_set_ne hj]; exact e1, e2⟩
/-- the arguments, the taken thing's place among them left open -/
def dArgsP : List (Option Den) → En → RA
  | [], δ => .ok [] δ
  | none :: fs, δ => bindAA (dArgsP fs δ) fun ds δ2 => .ok (.non :: ds) δ2
  | some f :: fs, δ => consA (f δ) fun d δ1 => bindAA (dArgsP fs δ1) fun ds δ2 => .ok (d :: ds) δ2
inductive RepsP (K : PySem.W.Frag) (v0 : V) (H : Hp) : List (Option Den) → List V → List D → Prop
  | nil : RepsP K v0 H [] [] []
  | skip {fs : List (Option Den)} {vs : List V} {ds : List D} : RepsP K v0 H fs vs ds → RepsP K v0 H (none :: fs) (v0 :: vs) (.non :: ds)
  | cons {f : Den} {fs : List (Option Den)} {v : V} {vs : List V} {d : D} {ds : List D} : Rep K H v d → RepsP K v0 H fs vs ds → RepsP K v0 H (some f :: fs) (v :: vs) (d :: ds)
theorem RepsP.len {K : PySem.W.Frag} {v0 : V} {H : Hp} : ∀ {fs : List (Option Den)} {vs : List V} {ds : List D}, RepsP K v0 H fs vs ds → vs.length = fs.length ∧ ds.length = fs.length
  | _, _, _, .nil => ⟨rfl, rfl⟩
  | _, _, _, .skip r => ⟨by rw [List.length_cons, List.length_cons, r.len.1], by rw [List.length_cons, List.length_cons, r.len.2]⟩
  | _, _, _, .cons _ r => ⟨by rw [List.length_cons, List.length_cons, r.len.1], by rw [List.length_cons, List.length_cons, r.len.2]⟩
theorem RepsP.at {K : PySem.W.Frag} {v0 : V} {H : Hp} : ∀ {fs : List (Option Den)} {vs : List V} {ds : List D}, RepsP K v0 H fs vs ds → ∀ (j : Nat), (fs[j]? = some none → vs[j]? = some v0) ∧ ∀ f v d, fs[j]? = some (some f) → vs[j]? = some v → ds[j]? = some d → Rep K H v d
  | _, _, _, .nil, j => ⟨fun h => by simp at h, fun f v d h => by simp at h⟩
  | _, _, _, .skip r, 0 => ⟨fun _ => rfl, fun f v d h => by simp at h⟩
  | _, _, _, .skip r, j + 1 => ⟨fun h => by simpa using (r.at j).1 (by simpa using h), fun f v d h1 h2 h3 => (r.at j).2 f v d (by simpa using h1) (by simpa using h2) (by simpa using h3)⟩
  | _, _, _, .cons p r, 0 => ⟨fun h => by simp at h, fun f v d h1 h2 h3 => by simp at h2 h3; subst h2 h3; exact p⟩
  | _, _, _, .cons p r, j + 1 => ⟨fun h => by simpa using (r.at j).1 (by simpa using h), fun f v d h1 h2 h3 => (r.at j).2 f v d (by simpa using h1) (by simpa using h2) (by simpa using h3)⟩
def PoAP (K : PySem.W.Frag) (W : Wi) (G : Gh) (σ : L2.St) (v0 : V) (fs : List (Option Den)) (H0 : Hp) (r : RA) (Q : List V → Hp → Prop) : Prop :=
  match r with
  | .ok ds δ => ∀ vs H0' H', Rl K G δ σ H0' H' → Same H0 H0' → RepsP K v0 H0' fs vs ds → Q vs H'
  | .rz c δ => ∀ cls dd H0' H', Rl K G δ σ H0' H' → Same H0 H0' → ExIs K W.ct c cls dd H' → W.w cls dd σ H'
  | .bad => False
def tAP (K : PySem.W.Frag) (W : Wi) (i : Nat) (fs : List (Option Den)) : TA := fun σ H Q => ∃ v0, σ[i]? = some (some v0) ∧ ∃ G δ H0, Rl K G δ σ H0 H ∧ PoAP K W G σ v0 fs H0 (dArgsP fs δ) Q
theorem RepsP.mono {K : PySem.W.Frag} {v0 : V} {H H' : Hp} (s : Same H H') : ∀ {fs : List (Option Den)} {vs : List V} {ds : List D}, RepsP K v0 H fs vs ds → RepsP K v0 H' fs vs ds
  | _, _, _, .nil => .nil
  | _, _, _, .skip r => .skip (r.mono s)
  | _, _, _, .cons p r => .cons (p.mono s) (r.mono s)
theorem map_nil {i : Nat} : PA X [] (tAP X.K W i []) := PA_imp pa_nil fun σ H Q ⟨v0, hσ, G, δ, H0, R, h⟩ => h [] H0 H R (Same.refl _) .nil
theorem map_skip {i : Nat} {x : Str} {p : Pos} {es : List Expr} {fs : List (Option Den)} (hx : PE X (.Name x p) (tVar i)) (hr : PA X es (tAP X.K W i fs)) (hs : starEach (.Name x p :: es) X.env = (false, eval (.Name x p) X.env) :: starEach es X.env) : PA X (.Name x p :: es) (tAP X.K W i (none :: fs)) :=
  PA_imp (pa_cons hx hr hs) fun σ H Q ⟨v0, hσ, G, δ, H0, R, h⟩ => ⟨v0, hσ, v0, hσ, G, δ, H0, R, by
    unfold dArgsP at h
    cases e : dArgsP fs δ with
    | bad => rw [e] at h; exact h
    | rz c δ1 => rw [e] at h; exact h
    | ok ds δ1 =>
      rw [e] at h
      exact fun vs H1 H' R1 s1 r1 => h (v0 :: vs) H1 H' R1 s1 (.skip r1)⟩
theorem map_cons {i : Nat} {e : Expr} {es : List Expr} {f : Den} {fs : List (Option Den)} (ha : PE X e (tM X.K W f)) (hr : PA X es (tAP X.K W i fs)) (hs : starEach (e :: es) X.env = (false, eval e X.env) :: starEach es X.env) : PA X (e :: es) (tAP X.K W i (some f :: fs)) :=
  PA_imp (pa_cons ha hr hs) fun σ H Q ⟨v0, hσ, G, δ, H0, R, h⟩ => ⟨G, δ, H0, R, by
    unfold dArgsP at h
    cases e : f δ with
    | bad => rw [e] at h; exact h
    | rz c δ1 => rw [e] at h; exact h
    | ok d δ1 =>
      rw [e] at h
      intro v H1 H' R1 s1 r1
      refine ⟨v0, hσ, G, δ1, H1, R1, ?_⟩
      have h : PoAP X.K W G σ v0 (some f :: fs) H0 (bindAA (dArgsP fs δ1) fun ds δ2 => .ok (d :: ds) δ2) Q := h
      cases e2 : dArgsP fs δ1 with
      | bad => rw [e2] at h; exact h
      | rz c δ2 => rw [e2] at h; exact fun cls dd H2 H'' R2 s2 x => h cls dd H2 H'' R2 (s1.trans s2) x
      | ok ds δ2 =>
        rw [e2] at h
        exact fun vs H2 H'' R2 s2 r2 => h (v :: vs) H2 H'' R2 (s1.trans s2) (.cons (r1.mono s2) r2)⟩
/-- what a def promises that writes at its parameter q -/
def spP (K : PySem.W.Frag) (n q : Nat) (g : List D → RD) : Sp := fun vs H Q E => ∃ H0 ds a o, Same H0 H ∧ vs.length = n ∧ ds.length = n ∧ vs[q]? = some (.ref a) ∧ ds[q]? = some (ownD o) ∧ H0 a = none ∧ OwnAt K H0 H a o ∧
  (∀ j v d, j ≠ q → vs[j]? = some v → ds[j]? = some d → Rep K H0 v d) ∧
  match g ds with
  | .okp d o' => ∀ v H1 H', GrP a H0 H H1 H' → H1 a = none → OwnAt K H1 H' a o' → Rep K H1 v d → Q v H'
  | .owp r o' => ∀ b H1 H', GrP a H0 H H1 H' → H1 a = none → OwnAt K H1 H' a o' → H b = none → H1 b = none → OwnAt K H1 H' b r → Q (.ref b) H'
  | _ => False
def ofP (r : RD) (i : Nat) (δ : En) : RE :=
  match r with
  | .okp d o => .ok d (setOwn δ i o)
  | .owp r o => .ok (ownD r) (setOwn δ i o)
  | _ => .bad
def ofPF (r : RD) (i : Nat) (δ : En) : RF :=
  match r with
  | .owp r o => .ok r (setOwn δ i o)
  | _ => .bad
def callPK (g : List D → RD) (q i : Nat) (s : Option O) (ds : List D) (δ : En) : RE :=
  match s with
  | some o => ofP (g (ds.set q (ownD o))) i δ
  | none => .bad
def callPKF (g : List D → RD) (q i : Nat) (s : Option O) (ds : List D) (δ : En) : RF :=
  match s with
  | some o => ofPF (g (ds.set q (ownD o))) i δ
  | none => .bad
def dCallP (g : List D → RD) (q i : Nat) (fs : List (Option Den)) : Den := fun δ => match ownAt δ i with
  | some _ => bindA (dArgsP fs δ) fun ds δ1 => callPK g q i (ownAt δ1 i) ds δ1
  | none => .bad
def fCallP (g : List D → RD) (q i : Nat) (fs : List (Option Den)) : FDen := fun δ => match ownAt δ i with
  | some _ => bindAF (dArgsP fs δ) fun ds δ1 => callPKF g q i (ownAt δ1 i) ds δ1
  | none => .bad
/-- only the place q is left open -/
def opens (q : Nat) (fs : List (Option Den)) : Prop := fs[q]? = some none ∧ ∀ j, j ≠ q → fs[j]? ≠ some none
theorem callP_args {K : PySem.W.Frag} {G : Gh} {δ1 : En} {σ : L2.St} {H1 H' : Hp} {q i n : Nat} {v0 : V} {o : O} {fs : List (Option Den)} {vs : List V} {ds : List D} (R1 : Rl K G δ1 σ H1 H') (ho : ownAt δ1 i = some o) (hσ : σ[i]? = some (some v0)) (r : RepsP K v0 H1 fs vs ds) (hq : opens q fs) (hl : fs.length = n) :
    ∃ a, v0 = .ref a ∧ σ[i]? = some (some (V.ref a)) ∧ vs.length = n ∧ (ds.set q (ownD o)).length = n ∧ vs[q]? = some (.ref a) ∧ (ds.set q (ownD o))[q]? = some (ownD o) ∧ H1 a = none ∧ OwnAt K H1 H' a o ∧ (∀ j v d, j ≠ q → vs[j]? = some v → (ds.set q (ownD o))[j]? = some d → Rep K H1 v d) := by
  obtain ⟨a, hσ2, n0, ne, w⟩ := R1.owned ho
  rw [hσ] at hσ2; cases hσ2
  have hql : q < fs.length := (List.getElem?_eq_some_iff.mp hq.1).1
  refine ⟨a, rfl, hσ, by rw [r.len.1, hl], by rw [List.length_set, r.len.2, hl], (r.at q).1 hq.1, List.getElem?_set_self (by rw [r.len.2]; exact hql), n0, w, fun j v d hj h1 h2 => ?_⟩
  rw [List.getElem?_set_ne (Ne.symm hj)] at h2
  have hjl : j < fs.length := by rw [← r.len.1]; exact (List.getElem?_eq_some_iff.mp h1).1
  cases hf : fs[j] with
  | none => exact absurd (by rw [List.getElem?_eq_getElem hjl, hf]) (hq.2 j hj)
  | some f => exact (r.at j).2 f v d (by rw [List.getElem?_eq_getElem hjl, hf]) h1 h2
theorem own_neP {K : PySem.W.Frag} {G : Gh} {δ : En} {σ : L2.St} {H0 H : Hp} {b : Addr} {i : Nat} {o o' : O} (R : Rl K G δ σ H0 H) (n : H b = none) (ho : ownAt δ i = some o) (j : Nat) (s : Sl) (h : (setOwn δ i o')[j]? = some s) (hs : isOwn s = true) : σ[j]? ≠ some (some (V.ref b)) := by
  have key : ∃ t, δ[j]? = some t ∧ isOwn t = true := by
    unfold ownAt at ho
    unfold setOwn at h
    split at ho
    · rename_i e
      simp only [e] at h
      by_cases hj : i = j
      · subst hj; exact ⟨_, e, rfl⟩
      · rw [List.getElem?_set_ne hj] at h; exact ⟨_, h, hs⟩
    · rename_i e
      simp only [e] at h
      by_cases hj : i = j
      · subst hj; exact ⟨_, e, rfl⟩
      · rw [List.getElem?_set_ne hj] at h; exact ⟨_, h, hs⟩
    · cases ho
  obtain ⟨t, e1, e2⟩ := key
  exact R.own_ne n j t e1 e2
theorem me_callP {CX : CXT} {k : Nat} {f : Addr} {fd : FuncData} {ps : List Str} {n q i : Nat} {x : Str} {p : Pos} {e : Expr} {es : List Expr} {g : List D → RD} {fs : List (Option Den)}
    (F : FnOk X.prog X.w X.K X.mg X.base CX k f fd ps (spP X.K n q g)) (hr : Room k X.A) (hg : Gl X x) (hm : X.mg x = some (.ref f)) (hk : PySem.W.keepIn X.K (.ref f) = true) (hb : Binds X.K fd ps []) (hx : ∀ σ, PassesAt CX X σ (WE W.w σ)) (hdb : (x == ("__debug__" : Str)) = false)
    (ha : PA X (e :: es) (tAP X.K W i fs)) (hl : fs.length = n) (hq : opens q fs)
    (he : starEach (e :: es) X.env = (false, eval e X.env) :: starEach es X.env) (hpl : (backTo pos (starEach es X.env)).any (·.1) = false) : PE X (.Call (.Name x p) (e :: es) [] pos) (tM X.K W (dCallP g q i fs)) := by
  refine PE_imp (pe_callS F hr hg hm hk hb hx ha hdb he hpl) fun σ H Q ⟨G, δ, H0, R, z⟩ => ?_
  unfold dCallP at z
  split at z
  · rename_i o0 e0
    obtain ⟨a0, hσ, _⟩ := R.owned e0
    refine ⟨_, hσ, G, δ, H0, R, ?_⟩
    cases eA : dArgsP fs δ with
    | bad => rw [eA] at z; exact z
    | rz c δ1 => rw [eA] at z; exact z
    | ok ds δ1 =>
      rw [eA] at z
      intro vs H1 H' R1 s1 r1
      have z : PoE X.K W G σ H0 (callPK g q i (ownAt δ1 i) ds δ1) Q := z
      cases ho : ownAt δ1 i with
      | none => rw [ho] at z; exact z.elim
      | some o =>
        rw [ho] at z
        have z : PoE X.K W G σ H0 (ofP (g (ds.set q (ownD o))) i δ1) Q := z
        obtain ⟨a, h0, h1, h2, h3, h4, h5, h6, h7, h8⟩ := callP_args R1 ho hσ r1 hq hl
        refine ⟨H1, ds.set q (ownD o), a, o, R1.hs, h2, h3, h4, h5, h6, h7, h8, ?_⟩
        cases hg : g (ds.set q (ownD o)) with
        | okp d o' => rw [hg] at z; exact fun v H2 H'' gr n0 w' r => z v H2 H'' (R1.growP ho h1 gr w') (s1.trans gr.h0) r
        | owp b o' => rw [hg] at z; exact fun v H2 H'' gr n0 w' nb nb1 wb => read_in z (R1.growP ho h1 gr w') (s1.trans gr.h0) nb1 (R1.he_none nb) wb (own_neP R1 nb ho)
        | ok d => rw [hg] at z; exact z.elim
        | ow d => rw [hg] at z; exact z.elim
        | rz c => rw [hg] at z; exact z.elim
        | bad => rw [hg] at z; exact z.elim
  · exact z.elim
/-! ### a call that only reads a list that one owns -/
mutual
/-- no list within -/
def flat : D → Bool
  | .non => true
  | .bl _ => true
  | .int _ => true
  | .str _ => true
  | .tup ds => flats ds
  | _ => false
def flats : List D → Bool
  | [] => true
  | d :: ds => flat d && flats ds
end
/-- the heap without one address -/
def del (H : Hp) (a : Addr) : Hp := fun b => if b = a then none else H b
theorem del_same {H : Hp} {a : Addr} : del H a a = none := if_pos rfl
theorem del_ne {H : Hp} {a b : Addr} (h : b ≠ a) : del H a b = H b := if_neg h
theorem SqT.del {K : PySem.W.Frag} {H : Hp} {a b : Addr} {us xs : List V} (ha : H a = some (.lst us)) (h : SqT K H b xs) : SqT K (del H a) b xs := by
  rcases h with (h | ⟨o, h⟩) | h
  · have hb : b ≠ a := fun z => by subst z; rw [ha] at h; cases h
    exact .inl (.inl (by rw [del_ne hb]; exact h))
  · have hb : b ≠ a := fun z => by subst z; rw [ha] at h; cases h
    exact .inl (.inr ⟨o, by rw [del_ne hb]; exact h⟩)
  · exact .inr h
mutual
theorem Rep.del {K : PySem.W.Frag} {H : Hp} {a : Addr} {us : List V} (ha : H a = some (.lst us)) : ∀ {v : V} {d : D}, Rep K H v d → flat d = true → Rep K (del H a) v d
  | _, _, .non, _ => .non
  | _, _, .bl b, _ => .bl b
  | _, _, .int i, _ => .int i
  | _, _, .str x, _ => .str x
  | _, _, .tup h r, f => .tup (SqT.del ha h) (Reps.del ha r (by unfold flat at f; exact f))
  | _, _, .lst _ _, f => by unfold flat at f; cases f
  | _, _, .dic _ _ _ _, f => by unfold flat at f; cases f
  | _, _, .exc _ _, f => by unfold flat at f; cases f
theorem Reps.del {K : PySem.W.Frag} {H : Hp} {a : Addr} {us : List V} (ha : H a = some (.lst us)) : ∀ {vs : List V} {ds : List D}, Reps K H vs ds → flats ds = true → Reps K (del H a) vs ds
  | _, _, .nil, _ => .nil
  | _, _, .cons h r, f => by
    unfold flats at f
    rw [Bool.and_eq_true] at f
    exact .cons (Rep.del ha h f.1) (Reps.del ha r f.2)
end
def flatR (r : RD) (δ : En) : RE :=
  match r with
  | .ok d => if flat d = true then .ok d δ else .bad
  | .ow (.lst es) => if flats es = true then .ok (.lst es) δ else .bad
  | .rz ⟨c, []⟩ => .rz ⟨c, []⟩ δ
  | _ => .bad
def callBK (g : List D → RD) (q : Nat) (s : Option O) (ds : List D) (δ : En) : RE :=
  match s with
  | some (.lst es) => flatR (g (ds.set q (.lst es))) δ
  | _ => .bad
def dCallB (g : List D → RD) (q i : Nat) (fs : List (Option Den)) : Den := fun δ => match ownAt δ i with
  | some _ => bindA (dArgsP fs δ) fun ds δ1 => callBK g q (ownAt δ1 i) ds δ1
  | none => .bad
theorem Gr.thaw {H0 H H1 H' : Hp} {a : Addr} {u : HO} (s : Same H0 H) (n0 : H0 a = none) (hu : H a = some u) (g : Gr (upd H0 a u) H H1 H') : Gr H0 H (del H1 a) H' where
  hs := g.hs
  h0 := fun b o e => by
    have hb : b ≠ a := fun z => by subst z; rw [n0] at e; cases e
    rw [del_ne hb]
    exact g.h0 b o (by rw [upd_ne hb]; exact e)
  s' := fun b o e => by
    by_cases hb : b = a
    · subst hb; rw [del_same] at e; cases e
    · rw [del_ne hb] at e; exact g.s' b o e
  hn := fun b e => by
    by_cases hb : b = a
    · subst hb; rw [del_same, n0]
    · rw [del_ne hb, g.hn b e, upd_ne hb]
theorem me_callB {CX : CXT} {k : Nat} {f : Addr} {fd : FuncData} {ps : List Str} {n q i : Nat} {ct : Nat → Addr} {x : Str} {p : Pos} {e : Expr} {es : List Expr} {g : List D → RD} {fs : List (Option Den)}
    (F : FnOk X.prog X.w X.K X.mg X.base CX k f fd ps (spD X.K ct n g)) (hr : Room k X.A) (hg : Gl X x) (hm : X.mg x = some (.ref f)) (hk : PySem.W.keepIn X.K (.ref f) = true) (hb : Binds X.K fd ps []) (hx : ∀ σ, PassesAt CX X σ (WE W.w σ)) (hdb : (x == ("__debug__" : Str)) = false)
    (ha : PA X (e :: es) (tAP X.K W i fs)) (hl : fs.length = n) (hct : W.ct = ct) (hq : opens q fs)
    (he : starEach (e :: es) X.env = (false, eval e X.env) :: starEach es X.env) (hpl : (backTo pos (starEach es X.env)).any (·.1) = false) : PE X (.Call (.Name x p) (e :: es) [] pos) (tM X.K W (dCallB g q i fs)) := by
  refine PE_imp (pe_callS F hr hg hm hk hb hx ha hdb he hpl) fun σ H Q ⟨G, δ, H0, R, z⟩ => ?_
  unfold dCallB at z
  split at z
  · rename_i o0 e0
    obtain ⟨a0, hσ, _⟩ := R.owned e0
    refine ⟨_, hσ, G, δ, H0, R, ?_⟩
    cases eA : dArgsP fs δ with
    | bad => rw [eA] at z; exact z
    | rz c δ1 => rw [eA] at z; exact z
    | ok ds δ1 =>
      rw [eA] at z
      intro vs H1 H' R1 s1 r1
      have z : PoE X.K W G σ H0 (callBK g q (ownAt δ1 i) ds δ1) Q := z
      cases ho : ownAt δ1 i with
      | none => rw [ho] at z; exact z.elim
      | some o =>
        rw [ho] at z
        cases o with
        | dic _ _ => exact z.elim
        | lst es' =>
          have z : PoE X.K W G σ H0 (flatR (g (ds.set q (.lst es'))) δ1) Q := z
          obtain ⟨a, h0, h1, h2, h3, h4, h5, h6, h7, h8⟩ := callP_args R1 ho hσ r1 hq hl
          obtain ⟨us, hu, rus⟩ := h7
          have sf : Same H1 (upd H1 a (.lst us)) := fun b u e => by rw [upd_ne (ne_of_none e h6)]; exact e
          have sf2 : Same (upd H1 a (.lst us)) H' := fun b u e => by
            by_cases hb' : b = a
            · subst hb'; rw [upd_same] at e; cases e; exact hu
            · rw [upd_ne hb'] at e; exact R1.hs b u e
          have rr : Reps X.K (upd H1 a (.lst us)) vs (ds.set q (.lst es')) := by
            have lv : vs.length = (ds.set q (.lst es')).length := by rw [h2]; exact h3.symm
            have key : ∀ (vs : List V) (ds : List D), vs.length = ds.length → (∀ (j : Nat) (v : V) (d : D), vs[j]? = some v → ds[j]? = some d → Rep X.K (upd H1 a (.lst us)) v d) → Reps X.K (upd H1 a (.lst us)) vs ds := by
              intro vs
              induction vs with
              | nil => intro ds l _; cases ds with
                | nil => exact .nil
                | cons _ _ => cases l
              | cons v vs ih => intro ds l h; cases ds with
                | nil => cases l
                | cons d ds => exact .cons (h 0 v d rfl rfl) (ih ds (by simpa using l) fun j v d a b => h (j + 1) v d (by simpa using a) (by simpa using b))
            refine key _ _ lv fun j v d e1 e2 => ?_
            by_cases hj : j = q
            · subst hj
              rw [h4] at e1
              have h5' : (ds.set j (.lst es'))[j]? = some (.lst es') := h5
              rw [h5'] at e2
              cases e1; cases e2
              exact .lst (.inl (.inl upd_same)) (rus.mono sf)
            · exact (h8 j v d hj e1 e2).mono sf
          refine ⟨upd H1 a (.lst us), ds.set q (.lst es'), sf2, rr, by rw [← hl]; exact h3.trans hl.symm, ?_⟩
          have thaw : ∀ {H2 H'' : Hp}, Gr (upd H1 a (.lst us)) H' H2 H'' → Gr H1 H' (del H2 a) H'' ∧ H2 a = some (.lst us) := fun gr => ⟨Gr.thaw R1.hs h6 hu gr, gr.h0 a _ upd_same⟩
          cases hg' : g (ds.set q (.lst es')) with
          | ok d =>
            rw [hg'] at z
            have z : PoE X.K W G σ H0 (if flat d = true then .ok d δ1 else .bad) Q := z
            split at z
            · rename_i hf
              exact fun v H2 H'' gr r => z v _ H'' (R1.grow (thaw gr).1) (s1.trans (thaw gr).1.h0) (Rep.del (thaw gr).2 r hf)
            · exact z.elim
          | ow o =>
            rw [hg'] at z
            cases o with
            | dic _ _ => exact z.elim
            | lst ws =>
              have z : PoE X.K W G σ H0 (if flats ws = true then .ok (.lst ws) δ1 else .bad) Q := z
              split at z
              · rename_i hf
                intro b H2 H'' gr nb nb1 wb
                obtain ⟨t1, t2⟩ := thaw gr
                obtain ⟨ys, hy, ry⟩ := wb
                refine read_in (o := .lst ws) z (R1.grow t1) (s1.trans t1.h0) ?_ (R1.he_none nb) ⟨ys, hy, Reps.del t2 ry hf⟩ (R1.own_ne nb)
                by_cases hb' : b = a
                · subst hb'; exact del_same
                · rw [del_ne hb']; exact nb1
              · exact z.elim
          | rz c =>
            rw [hg'] at z
            obtain ⟨c, pl⟩ := c
            cases pl with
            | cons _ _ => exact z.elim
            | nil =>
              intro cls dd H2 H'' gr ex
              obtain ⟨t1, t2⟩ := thaw gr
              subst hct
              refine z cls dd _ H'' (R1.grow t1) (s1.trans t1.h0) ?_
              exact ex
          | okp d o' => rw [hg'] at z; exact z.elim
          | owp b o' => rw [hg'] at z; exact z.elim
          | bad => rw [hg'] at z; exact z.elim
  · exact z.elim
theorem mf_callP {CX : CXT} {k : Nat} {f : Addr} {fd : FuncData} {ps : List Str} {n q i : Nat} {x : Str} {p : Pos} {e : Expr} {es : List Expr} {g : List D → RD} {fs : List (Option Den)}
    (F : FnOk X.prog X.w X.K X.mg X.base CX k f fd ps (spP X.K n q g)) (hr : Room k X.A) (hg : Gl X x) (hm : X.mg x = some (.ref f)) (hk : PySem.W.keepIn X.K (.ref f) = true) (hb : Binds X.K fd ps []) (hx : ∀ σ, PassesAt CX X σ (WE W.w σ)) (hdb : (x == ("__debug__" : Str)) = false)
    (ha : PA X (e :: es) (tAP X.K W i fs)) (hl : fs.length = n) (hq : opens q fs)
    (he : starEach (e :: es) X.env = (false, eval e X.env) :: starEach es X.env) (hpl : (backTo pos (starEach es X.env)).any (·.1) = false) : PE X (.Call (.Name x p) (e :: es) [] pos) (tF X.K W (fCallP g q i fs)) := by
  refine PE_imp (pe_callS F hr hg hm hk hb hx ha hdb he hpl) fun σ H Q ⟨G, δ, H0, R, z⟩ => ?_
  unfold fCallP at z
  split at z
  · rename_i o0 e0
    obtain ⟨a0, hσ, _⟩ := R.owned e0
    refine ⟨_, hσ, G, δ, H0, R, ?_⟩
    cases eA : dArgsP fs δ with
    | bad => rw [eA] at z; exact z
    | rz c δ1 => rw [eA] at z; exact z
    | ok ds δ1 =>
      rw [eA] at z
      intro vs H1 H' R1 s1 r1
      have z : PoF X.K W G σ H0 (callPKF g q i (ownAt δ1 i) ds δ1) Q := z
      cases ho : ownAt δ1 i with
      | none => rw [ho] at z; exact z.elim
      | some o =>
        rw [ho] at z
        have z : PoF X.K W G σ H0 (ofPF (g (ds.set q (ownD o))) i δ1) Q := z
        obtain ⟨a, h0, h1, h2, h3, h4, h5, h6, h7, h8⟩ := callP_args R1 ho hσ r1 hq hl
        refine ⟨H1, ds.set q (ownD o), a, o, R1.hs, h2, h3, h4, h5, h6, h7, h8, ?_⟩
        cases hg : g (ds.set q (ownD o)) with
        | okp d o' => rw [hg] at z; exact z.elim
        | owp b o' => rw [hg] at z; exact fun v H2 H'' gr n0 w' nb nb1 wb => z v H2 H'' (R1.growP ho h1 gr w') (s1.trans gr.h0) nb1 (R1.he_none nb) wb (own_neP R1 nb ho)
        | ok d => rw [hg] at z; exact z.elim
        | ow d => rw [hg] at z; exact z.elim
        | rz c => rw [hg] at z; exact z.elim
        | bad => rw [hg] at z; exact z.elim
  · exact z.elim
end
end Z

namespace Z
open PySem PySem.Spec PyProof.Rows L2
section
variable {X : Cx} {W : Wi} {pos : Pos}
/-! ### a new list times a number -/
theorem Reps.rep {K : PySem.W.Frag} {H : Hp} {vs : List V} {ds : List D} (r : Reps K H vs ds) : ∀ m : Nat, Reps K H (List.replicate m vs).flatten (List.replicate m ds).flatten
  | 0 => .nil
  | m + 1 => by
    rw [List.replicate_succ, List.replicate_succ, List.flatten_cons, List.flatten_cons]
    exact r.append (Reps.rep r m)
def repK (n : Int) : RF → RF
  | .ok (.lst ds) δ => if 0 ≤ n ∧ n < 1000000 ∧ ds.length * n.toNat ≤ 1000000 then .ok (.lst (List.replicate n.toNat ds).flatten) δ else .bad
  | .rz c δ => .rz c δ
  | _ => .bad
def fRep (f : FDen) (n : Int) : FDen := fun δ => repK n (f δ)
theorem mf_rep {a : Expr} {f : FDen} {n : Int} {j : Nat} {p2 : Pos} (ha : PE X a (tF X.K W f)) : PE X (.BinOp a .Mult (.Constant (.int n) j p2) pos) (tF X.K W (fRep f n)) :=
  PE_imp (pe_op op_rep ha pe_int) fun σ H Q ⟨G, δ, H0, R, q⟩ => ⟨G, δ, H0, R, by
    unfold fRep at q
    cases e : f δ with
    | bad => rw [e] at q; exact q.elim
    | rz c δ1 => rw [e] at q; exact q
    | ok o δ1 =>
      rw [e] at q
      cases o with
      | dic ks ds => exact q.elim
      | lst ds =>
        have q : PoF X.K W G σ H0 (if 0 ≤ n ∧ n < 1000000 ∧ ds.length * n.toNat ≤ 1000000 then .ok (.lst (List.replicate n.toNat ds).flatten) δ1 else .bad) Q := q
        by_cases c : 0 ≤ n ∧ n < 1000000 ∧ ds.length * n.toNat ≤ 1000000
        · rw [if_pos c] at q
          intro a H0' H' R' s n0 ne w nw
          obtain ⟨vs, hv, rv⟩ := w
          exact ⟨a, n, vs, rfl, rfl, hv, by omega, by omega, by rw [rv.length]; exact sz_le c.2.2, fun p hp => (q.up s).laid R' hp ⟨_, upd_same, rv.rep _⟩⟩
        · rw [if_neg c] at q
          exact q.elim⟩
/-! ### isinstance(e, (T, U)) -/
def isi2K (t u : String) (d : D) : Option D :=
  match kitB (tyD d) t with
  | some true => some (.bl true)
  | some false => (kitB (tyD d) u).map .bl
  | none => none
def isi2D (t u : String) (d : D) : Option D := if isExc d then none else isi2K t u d
theorem me_isi2 {t1 t2 : String} {n1 n2 : Str} {p p1 p2 p3 : Pos} {k : Nat} {e : Expr} {f : Den} (ha : PE X e (tM X.K W f)) (hg : Gl X "isinstance") (hm : X.mg "isinstance" = none)
    (g1 : Gl X n1) (m1 : X.mg n1 = none) (v1 : bootBuiltins n1 = some (.type t1)) (nn1 : n1 ≠ "__name__") (d1 : (n1 == ("__debug__" : Str)) = false)
    (g2 : Gl X n2) (m2 : X.mg n2 = none) (v2 : bootBuiltins n2 = some (.type t2)) (nn2 : n2 ≠ "__name__") (d2 : (n2 == ("__debug__" : Str)) = false)
    (he : starEach (e :: [.Tuple [.Name n1 p1, .Name n2 p2] k p3]) X.env = (false, eval e X.env) :: starEach [.Tuple [.Name n1 p1, .Name n2 p2] k p3] X.env) :
    PE X (.Call (.Name "isinstance" p) [e, .Tuple [.Name n1 p1, .Name n2 p2] k p3] [] pos) (tM X.K W (dUn (isi2D t1 t2) f)) := by
  have h1 : PE X (.Name n1 p1) (tC (.ty t1)) := pe_bltn g1 m1 v1 rfl nn1 d1
  have h2 : PE X (.Name n2 p2) (tC (.ty t2)) := pe_bltn g2 m2 v2 rfl nn2 d2
  have hT := pe_tup (x1 := k) (pos := p3) (pa_cons h1 (pa_cons h2 pa_nil rfl) rfl)
  refine PE_imp (pe_callB call_isiT hg hm boot_isinstance (pa_cons ha (pa_cons hT pa_nil rfl) he) (by decide +kernel) (by decide +kernel) he rfl) fun σ H Q ⟨G, δ, H0, R, h⟩ => ⟨G, δ, H0, R, PoE.bind h fun d δ1 v H01 H1 R1 s1 r1 h1 => ?_⟩
  obtain ⟨z, hz, h3⟩ := ofO_some h1
  refine ⟨show 2 ≤ sizeLine by decide, fun q hq => ?_⟩
  have g := Gr.lay (o := .tup [.ty t1, .ty t2]) R1.hs hq
  have R2 := R1.grow g
  unfold isi2D at hz
  split at hz
  · cases hz
  rename_i ne
  have ne : isExc d = false := by simpa using ne
  unfold isi2K at hz
  have key : ∀ b : Bool, z = .bl b → PySem.W.kitAny X.K (.type (tyD d)) [.type t1, .type t2] = some b → rIsiT X.K [v, .ref q] (upd H1 q (.tup [.ty t1, .ty t2])) Q := fun b ez hk => by
    subst ez
    exact ⟨v, q, _, _, _, b, rfl, upd_same, .cons (.ty _) (.cons (.ty _) .nil), r1.tyx R2.hs ne, hk, h3.val R2 (.bl _)⟩
  split at hz
  · rename_i hk
    cases hz
    exact key true rfl (kitAny_cons (kit_ty hk) (fun e => by cases e) fun _ => rfl)
  · rename_i hk
    cases hk2 : kitB (tyD d) t2 with
    | none => rw [hk2] at hz; cases hz
    | some b =>
      rw [hk2] at hz
      cases hz
      cases b with
      | true => exact key true rfl (kitAny_cons (kit_ty hk) (fun _ => kitAny_cons (kit_ty hk2) (fun e => by cases e) fun _ => rfl) fun e => by cases e)
      | false => exact key false rfl (kitAny_cons (kit_ty hk) (fun _ => kitAny_cons (kit_ty hk2) (fun _ => kitAny_nil) fun e => by cases e) fun e => by cases e)
  · cases hz
end
end Z

namespace Z
open PySem PySem.Spec PyProof.Rows L2
/-! ### where an exception is being handled -/
/-- the handled exception was locked ahead of the entry; its context is None -/
def HotX (X : Cx) : Prop := ∃ (x : Addr) (oe : Obj) (vs : Array Value), X.A.handled = some (.ref x) ∧ X.H_0 x = some (exT oe) ∧ oe.data = .fields vs ∧ vs[2]? = some .none
theorem exT_get {P : Program} {w : World} {H : Hp} {h : Heap} {a : Addr} {oe : Obj} (x : HOk P w H h) (e : H a = some (exT oe)) : h.get? a = some oe := by
  obtain ⟨q, _⟩ := (show ObjOk P w H h a (exT oe) from x a _ e)
  exact q
section
variable {X : Cx} {pins : List (Addr × Obj)} {σ : L2.St} {H : Hp} {s : Shared}
theorem HotX.here (hx : HotX X) (I : Inv X pins σ H s) : ∃ x oe vs, X.A.handled = some (.ref x) ∧ H x = some (exT oe) ∧ s.heap.get? x = some oe ∧ oe.data = .fields vs ∧ vs[2]? = some .none := by
  obtain ⟨x, oe, vs, h1, h2, h3, h4⟩ := hx
  have e := I.base.frzs x oe _ h2
  exact ⟨x, oe, vs, h1, e, exT_get I.hok e, h3, h4⟩
theorem HotX.at (hx : HotX X) (I : Inv X pins σ H s) : ∃ x, _root_.HotX.HotAt X.A x s.heap := by
  obtain ⟨x, oe, vs, h1, _, h2, h3, h4⟩ := hx.here I
  exact ⟨x, h1, oe, vs, h2, h3, h4⟩
end
end Z
namespace Z
open PySem PySem.Spec PyProof.Rows L2
section
variable {X : Cx} {pins : List (Addr × Obj)} {σ : L2.St} {H : Hp} {s : Shared} {a : Addr} {oe : Obj}
/-- an object of no concern to the frame, new since the entry, is locked as it stands -/
theorem Inv.lock (I : Inv X pins σ H s) (ea : s.heap.get? a = some oe) (n0 : X.s_0.heap.get? a = none) (na : H a = none) (nL : a ≠ X.env.locals) (nc : ∀ x c, X.env.cells.lookup x = some c → a ≠ c) (np : ∀ p ∈ X.pn ++ pins, a ≠ p.1) :
    Inv X pins σ (upd H a (exT oe)) s := by
  have old : ∀ {b : Addr} {o : HO}, H b = some o → upd H a (exT oe) b = some o := fun e => by rw [upd_ne (ne_of_none e na)]; exact e
  have ne0 : ∀ {b : Addr} {o : Obj}, X.s_0.heap.get? b = some o → b ≠ a := fun e z => by rw [z, n0] at e; cases e
  refine { I with base := { I.base with free := fun b o e n hx => ?_, tups := fun b xs e => old (I.base.tups b xs e), frzs := fun b o u e => old (I.base.frzs b o u e), tbls := fun b ps e => ?_ }, free := ?_, freeC := fun x c e => ?_, pin := fun p hp => ?_, hok := fun b u e => ?_ }
  · rw [upd_ne (ne0 e)]; exact I.base.free b o e n hx
  · obtain ⟨m, q⟩ := I.base.tbls b ps e
    exact ⟨m, old q⟩
  · rw [upd_ne (Ne.symm nL)]; exact I.free
  · rw [upd_ne (Ne.symm (nc x c e))]; exact I.freeC x c e
  · obtain ⟨k1, k2, k3⟩ := I.pin p hp
    exact ⟨k1, by rw [upd_ne (Ne.symm (np p hp))]; exact k2, k3⟩
  · by_cases hb : b = a
    · subst hb
      rw [upd_same] at e
      cases e
      exact ⟨ea, True.intro, ⟨oe, ea⟩, fun _ _ _ _ => True.intro⟩
    · rw [upd_ne hb] at e
      exact (I.hok b u e).stay (fun _ _ _ q => q) (fun _ q => old q) fun _ _ q => old q
end
/-! ### a list comprehension over range, where an exception is being handled -/
section
variable {X : Cx}
theorem HotX.blk {hs : Shared} {H : Hp} {scope : Scope} {ce : Env} {fp : List Addr} {x : Addr} {oe : Obj} {vs : Array Value} (h1 : X.A.handled = some (.ref x)) (h2 : H x = some (exT oe)) (h3 : oe.data = .fields vs) (h4 : vs[2]? = some .none) : HotX (X.blk hs H scope ce fp) :=
  ⟨x, oe, vs, h1, h2, h3, h4⟩
/-- the turns: B the block's context, it the range's iterator, D the new list -/
theorem lcT_loop {B : Cx} {elt tg iter : Expr} {ifs : List Expr} {scope : Scope} {pos : Pos} {it D : Addr} {n : Nat} {ω σ : L2.St} {vs : List Nat} {g : TG} {tt : TT} {te : TE} {Q : VK} {Wm : Nat → Nat → Hp → Prop} {Rr : Result → Shared → Prop}
    (hx : HotX B) (hex : B.ex = [it]) (hpn : B.pn = []) (hef : it ≠ B.env.locals) (hfs : it ∉ B.fs) (hcl : ∀ x c, B.env.cells.lookup x = some c → c ≠ it) (hxe : B.xe = fun _ _ => False) (hω : ω = wipe σ vs)
    (pg : PG B tg g) (pt : PTs B ifs tt) (pe : PE B elt te)
    (turn : ∀ i m H, Wm i m H → ((Itr 0 n).stop i H ∧ Q (.ref D) H) ∨ ((Itr 0 n).go i H ∧ ∃ Nx : Hp → Prop, (∀ H', Nx H' → ∃ m', m' < m ∧ Wm (i + 1) m' H') ∧ ∀ x H', (Itr 0 n).yld i H x H' → g x (wipe σ vs) H' fun σ2 H2 => wipe σ2 vs = wipe σ vs ∧ tt σ2 H2 fun b H3 =>
      if b = true then te σ2 H3 fun y H4 => ∃ acc, H4 D = some (.lst acc) ∧ acc.length < sizeLine ∧ Nx (upd H4 D (.lst (acc ++ [y]))) else Nx H3))
    (done : ∀ s' H', Inv B [] ω H' s' → Q (.ref D) H' → Rr (.ok .next) s') (m : Nat) {H : Hp} {s : Shared} (I : Inv B [] ω H s) (st : IsRangeIter s.heap it 0 n 1) (hn : H it = none) (w : Wm 0 m H) :
    codeAny (model B.prog B.w) B.A (.compLoop (.ListComp elt [⟨tg, iter, ifs, 0⟩] scope pos) 0 (.ref it) (.ref D) B.env) Rr s := by
  have fp : ∀ {H' : Hp}, H' it = none → ∀ b ∈ [it], FpOk B [] H' b := fun e b hb => by
    obtain rfl : b = it := by simpa using hb
    exact ⟨e, hef, hfs, .inl (by rw [hex]; exact hb), hcl, fun p hp => by rw [hpn] at hp; cases hp⟩
  have noE : ∀ {P : Prop} {e : Value} {s' : Shared}, B.xe e s' → P := fun z => by rw [hxe] at z; exact z.elim
  refine compLoop_any (fun k s' => ∃ i H', Inv B [] ω H' s' ∧ IsRangeIter s'.heap it (i : Nat) ((n : Int) - (i : Nat)) 1 ∧ H' it = none ∧ Wm i k H') ?_ m ⟨0, H, I, by simpa using st, hn, w⟩
  rintro k s1 ⟨i, H1, I1, st1, n1, w1⟩
  rcases turn i k H1 w1 with ⟨stop, q⟩ | ⟨go, Nx, less, step⟩
  · obtain ⟨x, hot⟩ := hx.at I1
    have hs : n ≤ i := stop
    exact HotX.pyNext_range_end_hot hot st1 (by omega) fun h' keep => done _ _ (I1.turned (t' := s1.toks) (fun b o _ e => keep b o e) n1 hef (.inl (by rw [hex]; simp)) hcl fun p hp => by rw [hpn] at hp; cases hp) q
  · have hg : i < n := go
    refine wpAny_pyNext_range_item st1 (by omega) fun h' st2 same => ?_
    have I2 : Inv B [] ω H1 { s1 with heap := h', toks := s1.toks + 1 } := I1.turned (fun b o hb e => (same.2 b hb).trans e) n1 hef (.inl (by rw [hex]; simp)) hcl fun p hp => by rw [hpn] at hp; cases hp
    have I3 := I2.pinned (fp n1) fun b hb => by
      obtain rfl : b = it := by simpa using hb
      exact ⟨_, st2, fun v z => by cases z⟩
    refine go_of (s := { s1 with heap := h', toks := s1.toks + 1 }) (n := "range_iterator") st2 rfl rfl (by decide) ?_
    have yl : (Itr 0 n).yld i H1 (.int (i : Nat)) H1 := ⟨rfl, by simp⟩
    have start := step _ _ yl
    rw [← hω] at start
    refine wpAny_mono (pg.run _ _ ω H1 (.int (i : Nat)) _ _ I3 ⟨s1.toks, rfl⟩ start) (fun _ s3 ⟨σ3, H3, I4, e3, q3⟩ => ?_) fun _ _ z => noE z
    have back : ∀ {s' : Shared} {H' : Hp}, Inv B ([] ++ pinsAt [it] h') σ3 H' s' → Nx H' → ∃ m', m' < k ∧ ∃ i H', Inv B [] ω H' s' ∧ IsRangeIter s'.heap it (i : Nat) ((n : Int) - (i : Nat)) 1 ∧ H' it = none ∧ Wm i m' H' := fun {s' H'} J nx => by
      obtain ⟨m', lt, w'⟩ := less H' nx
      obtain ⟨p1, p2, _⟩ := J.pin (it, _) (List.mem_append_right _ (List.mem_append_right _ (mem_pinsAt (by simp) st2)))
      refine ⟨m', lt, i + 1, H', (J.unpinned (pins := [])).weak (by rw [← e3, wipe_length]) (fun j v e => ?_), ?_, p2, w'⟩
      · rw [← e3] at e
        exact (wipe_some e).1
      · have e1 : ((i + 1 : Nat) : Int) = (i : Int) + 1 := by omega
        have e2 : (n : Int) - ((i + 1 : Nat) : Int) = (n : Int) - (i : Int) - 1 := by omega
        rw [e2, e1]
        exact p1
    refine wpAny_mono (pt.run _ s3 σ3 H3 _ I4 q3) (fun b s4 ⟨H4, I5, q4⟩ => ?_) fun _ _ z => noE z
    cases b with
    | false =>
      simp only [Bool.false_eq_true, if_false] at q4 ⊢
      exact back I5 q4
    | true =>
      simp only [if_true] at q4 ⊢
      refine wpAny_mono (pe.run _ s4 σ3 H4 _ I5 q4) (fun z s5 ⟨y, H5, I6, r5, acc, e5, l5, nx⟩ => ?_) fun _ _ z => noE z
      exact app_ok (X := B) I6 e5 l5 r5 fun s6 I7 => back I7 nx
theorem lcT_rest {elt tg iter : Expr} {ifs : List Expr} {scope : Scope} {own : List (Str × Nat)} {pos : Pos} {g : TG} {tt : TT} {te : TE} {pins : List (Addr × Obj)} {σ : L2.St} {H : Hp} {s : Shared} {Q : VK} {it : Addr} {n : Nat} (hx : HotX X) (hN : X.N.Nodup)
    (ok : BlkOk X.N X.env.scope scope own) (hg : ∀ (s : Shared) (H : Hp) (C : Addr) (cl : List (Str × Addr)) (fp : List Addr), PG (X.blk s H scope (compEnvC scope cl C X.env) fp) tg g)
    (ht : ∀ (s : Shared) (H : Hp) (C : Addr) (cl : List (Str × Addr)) (fp : List Addr), PTs (X.blk s H scope (compEnvC scope cl C X.env) fp) ifs tt) (he : ∀ (s : Shared) (H : Hp) (C : Addr) (cl : List (Str × Addr)) (fp : List Addr), PE (X.blk s H scope (compEnvC scope cl C X.env) fp) elt te)
    (I : Inv X pins σ H s) (st : IsRangeIter s.heap it 0 n 1) (hf : FpOk X pins H it)
    (h : ∀ D, H D = none → ∃ W : Nat → Nat → Hp → Prop, (∃ m, W 0 m (upd H D (.lst []))) ∧ ∀ i m H, W i m H → ((Itr 0 n).stop i H ∧ Q (.ref D) H) ∨ ((Itr 0 n).go i H ∧ ∃ Nx : Hp → Prop, (∀ H', Nx H' → ∃ m', m' < m ∧ W (i + 1) m' H') ∧ ∀ x H', (Itr 0 n).yld i H x H' → g x (wipe σ (own.map (·.2))) H' fun σ2 H2 => wipe σ2 (own.map (·.2)) = wipe σ (own.map (·.2)) ∧ tt σ2 H2 fun b H3 =>
      if b = true then te σ2 H3 fun y H4 => ∃ acc, H4 D = some (.lst acc) ∧ acc.length < sizeLine ∧ Nx (upd H4 D (.lst (acc ++ [y]))) else Nx H3)) :
    wpAny (model X.prog X.w) X.A (newList []) (fun acc s3 => wpAny (model X.prog X.w) X.A (newFunctionEnv scope X.env.globals (cloFrom X.env.cells scope.names []) [] X.env.qual none .none (some X.env)) (fun cenv s4 =>
      codeAny (model X.prog X.w) X.A (.compStart (.ListComp elt [⟨tg, iter, ifs, 0⟩] scope pos) 0 (.ref it) acc { cenv with scope := relabel scope X.env }) (compPost (model X.prog X.w) X.A X.xe none (EP X pins σ Q) acc cenv.locals) s4) X.xe s3) X.xe s := by
  refine wpAny_newObj_type (newEnv_comp ?_) (by show 0 ≤ sizeLine; decide)
  have lt : it < s.heap.objs.size := Heap.lt_size st
  obtain ⟨D, hD⟩ : ∃ D, D = s.heap.objs.size := ⟨_, rfl⟩
  obtain ⟨x, oe, fs, k1, k2, k3, k4, k5⟩ := hx.here I
  have free : H D = none := I.hok.fresh (Nat.le_of_eq hD.symm)
  obtain ⟨W, ⟨m0, w0⟩, turn⟩ := h D free
  obtain ⟨J, hJ⟩ : ∃ J, J = upd H D (.lst []) := ⟨_, rfl⟩
  obtain ⟨s3, hs3⟩ : ∃ s3 : Shared, s3 = { s with heap := s.heap.push { cls := .type "list", data := .seq ([] : List Value).toArray } } := ⟨_, rfl⟩
  have e3 : s3.heap = s.heap.push { cls := .type "list", data := .seq ([] : List Value).toArray } := by rw [hs3]
  have I3 : Inv X pins σ J s3 := by
    rw [hs3, hJ]
    refine I.laid (t' := s.toks) (fun _ _ e => Heap.get?_push_of_some _ e) (Nat.le_of_eq hD.symm) ⟨Nat.zero_le _, [], 0, .nil, ?_⟩
    rw [hD]
    exact Heap.get?_push_size _ rfl
  have itD : it ≠ D := by rw [hD]; exact Nat.ne_of_lt lt
  have xD : x ≠ D := fun z => by rw [z, free] at k2; cases k2
  have n3 : J it = none := by rw [hJ, upd_ne itD]; exact hf.1
  have f3 : FpOk X pins J it := ⟨n3, hf.2⟩
  have l3 : it < s3.heap.objs.size := by rw [e3, Heap.size_push]; exact Nat.lt_succ_of_lt lt
  have start := block_start I3 ok hN (fp := [it]) fun b hb => by
    obtain rfl : b = it := by simpa using hb
    exact ⟨f3, l3⟩
  obtain ⟨cl, hcl⟩ : ∃ cl, cl = cellsFrom (s3.heap.objs.size + 1) scope.names (cloFrom X.env.cells scope.names []) := ⟨_, rfl⟩
  rw [← hcl] at start
  rw [← hs3]
  show codeAny _ _ (.compStart (.ListComp elt [⟨tg, iter, ifs, 0⟩] scope pos) 0 (.ref it) (.ref s.heap.objs.size) (compEnvC scope (cellsFrom (s3.heap.objs.size + 1) scope.names (cloFrom X.env.cells scope.names [])) s3.heap.objs.size X.env)) (compPost (model X.prog X.w) X.A X.xe none (EP X pins σ Q) (.ref s.heap.objs.size) s3.heap.objs.size) { s3 with heap := pushCells (s3.heap.push { cls := .type "dict", data := .dict #[] }) scope.names }
  rw [← hcl, ← hD]
  obtain ⟨s4, hs4⟩ : ∃ s4 : Shared, s4 = { s3 with heap := pushCells (s3.heap.push { cls := .type "dict", data := .dict #[] }) scope.names } := ⟨_, rfl⟩
  rw [← hs4] at start ⊢
  have st4 : IsRangeIter s4.heap it 0 n 1 := by
    rw [hs4]
    exact pushCells_keeps _ _ _ _ (Heap.get?_push_of_some _ (by rw [e3]; exact Heap.get?_push_of_some _ st))
  have hB : HotX (X.blk s3 J scope (compEnvC scope cl s3.heap.objs.size X.env) [it]) := ⟨x, oe, fs, k1, by show J x = _; rw [hJ, upd_ne xD]; exact k2, k4, k5⟩
  have ex := start.ok.exf it (by show it ∈ [it]; simp)
  have loop := lcT_loop (B := X.blk s3 J scope (compEnvC scope cl s3.heap.objs.size X.env) [it]) (elt := elt) (tg := tg) (iter := iter) (ifs := ifs) (scope := scope) (pos := pos) (D := D) (σ := σ) (vs := own.map (·.2)) (Q := Q) (Wm := W)
    (Rr := compPost (model X.prog X.w) X.A X.xe none (EP X pins σ Q) (.ref D) s3.heap.objs.size) hB rfl rfl ex.1 (start.ok.exfs it (by show it ∈ [it]; simp)) (fun y c e => ex.2 y c e) rfl rfl (hg _ _ _ _ _) (ht _ _ _ _ _) (he _ _ _ _ _) turn
    (fun s' H' J' q => by
      have back : Inv X pins σ H' s' := I3.call' (ch := [it]) J'.os J'.base J'.hok J'.bare fun b hb => by
        obtain rfl : b = it := by simpa using hb
        exact ⟨f3.2.2.2.1, f3.2.1, f3.2.2.2.2.1, f3.2.2.2.2.2⟩
      obtain ⟨m, hn, _⟩ := J'.loc
      have nC : H' s3.heap.objs.size = none := J'.free
      obtain ⟨_, c1, _, c3, c4, c5⟩ := I3.fpOk (Nat.le_refl _) nC
      exact ⟨m, hn, fun h'' sb => ⟨.ref D, H', back.turned (t' := s'.toks) (fun b o hb e => (sb.2 b hb).trans e) nC c1 c3 c4 c5, rfl, q⟩⟩)
    m0 start st4 n3 (by rw [hJ]; exact w0)
  exact codeAny_compStart_list loop (wpAny_pyIter_rangeiter st4 loop)
theorem pe_lcT {elt tg a : Expr} {ifs : List Expr} {scope : Scope} {own : List (Str × Nat)} {pos p q : Pos} {ta : TA} {g : TG} {tt : TT} {te : TE} (hx : HotX X) (hN : X.N.Nodup) (hgl : Gl X "range") (hm : X.mg "range" = none) (ha : PA X [a] ta) (hst : starEach [a] X.env = [(false, eval a X.env)])
    (ok : BlkOk X.N X.env.scope scope own) (hg : ∀ (s : Shared) (H : Hp) (C : Addr) (cl : List (Str × Addr)) (fp : List Addr), PG (X.blk s H scope (compEnvC scope cl C X.env) fp) tg g)
    (ht : ∀ (s : Shared) (H : Hp) (C : Addr) (cl : List (Str × Addr)) (fp : List Addr), PTs (X.blk s H scope (compEnvC scope cl C X.env) fp) ifs tt) (he : ∀ (s : Shared) (H : Hp) (C : Addr) (cl : List (Str × Addr)) (fp : List Addr), PE (X.blk s H scope (compEnvC scope cl C X.env) fp) elt te) :
    PE X (.ListComp elt [⟨tg, .Call (.Name "range" p) [a] [] q, ifs, 0⟩] scope pos) (tLc (iRng1 ta) g tt te (own.map (·.2))) := by
  refine ⟨fun pins s σ H Q I h => ?_⟩
  rw [eval_ListComp]
  have hfree : ∀ y ∈ scope.names, y.2 = .free → ∃ c, X.env.cells.lookup y.1 = some c := fun y hy e => (ok.free y hy e).elim (fun k => I.ok.has _ (.inl k)) fun k => I.ok.has _ (.inr k)
  refine wpAny_comprehension_free (use := none) rfl (fun _ => rfl) (closure_ok hfree) ok.kind (fun y hy e => by rw [ok.uniq y hy, e]) ?_
  refine Call_ (ld_blt I hgl hm boot_range (PyProof.Rows.callWith_type1 (thn (ha.run q pins s σ H _ I h) fun us s1 ⟨ws, H1, I1, r1, rd⟩ => ?_) hst rfl))
  obtain ⟨j, e, b1, b2, rd⟩ := rd
  subst e
  cases r1 with
  | cons r rr =>
    cases rr
    obtain ⟨t, rfl⟩ := r
    refine call_range_1 (wpAny_pyIter_range (IsRange.new ..) (small_one (by omega) (by omega) b1 b2) ?_)
    have I2 : Inv X pins σ H1 { s1 with heap := s1.heap.push { cls := .type "range", data := .fields #[.int 0 s1.toks, .int j t, .int 1 (s1.toks + 1)] }, toks := s1.toks + 1 + 1 } := I1.kept fun _ _ e => Heap.get?_push_of_some _ e
    have sz : Builtin.Range.rangeSize 0 j 1 = (j.toNat : Int) := by rw [rangeSize_one]; split <;> omega
    refine lcT_rest (n := j.toNat) hx hN ok hg ht he (I2.kept (t' := s1.toks + 1 + 1) fun _ _ e => Heap.get?_push_of_some _ e) ?_ (I2.fpOk (Nat.le_refl _) (I2.hok.fresh (Nat.le_refl _))) rd
    have g := Heap.get?_push_size (s1.heap.push { cls := .type "range", data := .fields #[.int 0 s1.toks, .int j t, .int 1 (s1.toks + 1)] }) (o := { cls := .type "range_iterator", data := .fields #[rawInt 0, rawInt (Builtin.Range.rangeSize 0 j 1), rawInt 1] }) rfl
    rw [sz] at g
    rw [sz]
    exact g
end
end Z
namespace Z
open PySem PySem.Spec PyProof.Rows L2
/-! ### try .. except X as n -/
section
variable {X : Cx} {pins : List (Addr × Obj)} {σ : L2.St} {H : Hp} {sI : Shared} {B h : Heap} {a : Addr} {Zp : Obj → Prop}
/-- the caught object is of no concern to the frame, new since the entry -/
theorem caught_apart (J : Inv X pins σ H sI) (hs : X.stack = X.env :: X.outer) (hf : X.env.frame = some X.env.locals) (hex : X.ex = []) (nb : ∀ b o, sI.heap.get? b = some o → b ∉ frs X.stack → B.get? b = some o) (fl : HandSPX.FlyingZ B (X.env :: X.outer) a Zp h) :
    a ≠ X.env.locals ∧ a ∉ X.fs ∧ X.s_0.heap.get? a = none ∧ (∀ x c, X.env.cells.lookup x = some c → a ≠ c) ∧ ∀ p ∈ X.pn ++ pins, a ≠ p.1 := by
  obtain ⟨oe, vs, he, _, hd⟩ := fl.there
  have far : a ∉ frs (X.env :: X.outer) := fun hm => by
    obtain ⟨_, o, ho, hn⟩ := fl.2.2.1.mem hm
    rw [he] at ho
    cases ho
    exact hn _ hd
  have gone : sI.heap.get? a = none := by
    cases e : sI.heap.get? a with
    | none => rfl
    | some o =>
      have z := nb a o e (by rw [hs]; exact far)
      rw [fl.2.1] at z
      cases z
  refine ⟨fun z => far (List.mem_filterMap.mpr ⟨X.env, List.mem_cons_self, by rw [hf, z]⟩), fun hm => ?_, ?_, fun x c e z => ?_, fun p hp z => ?_⟩
  · obtain ⟨v, hv, q⟩ := List.mem_filterMap.mp hm
    exact far (List.mem_filterMap.mpr ⟨v, List.mem_cons_of_mem _ hv, q⟩)
  · cases e : X.s_0.heap.get? a with
    | none => rfl
    | some o =>
      obtain ⟨o', q⟩ := J.base.there a o e (by rw [hex]; exact fun y => nomatch y)
      rw [gone] at q
      cases q
  · obtain ⟨v, o, q, _⟩ := J.cell x c e
    rw [← z, gone] at q
    cases q
  · have q := (J.pin p hp).1
    rw [← z, gone] at q
    cases q
theorem inv_suite {s : Shared} (I : Inv X pins σ H s) (x : Addr) : Inv (X.suite x (X.pn ++ pins)) [] σ H s :=
  { I with ok := I.ok.suite _ _, pin := fun p hp => I.pin p (by rw [List.append_nil] at hp; exact hp) }
theorem inv_unsuite {s : Shared} {x : Addr} {pl : List (Addr × Obj)} (I : Inv (X.suite x (X.pn ++ pins)) pl σ H s) (ok : X.Ok) : Inv X pins σ H s :=
  { I with ok := ok, pin := fun p hp => I.pin p (List.mem_append_left _ hp) }
end
/-- what the clause wishes of an exception of the body: its object, locked, goes to slot i -/
def wTry (K : PySem.W.Frag) (c : Value) (i : Nat) (ts : Addr → TS) (Wout : WX) (D : Ends) : WX := fun cls d σ H =>
  ∃ b, PySem.W.exmOne K cls c = some b ∧ (b = false → Wout cls d σ H) ∧ (b = true → d = none ∧ ∀ (a : Addr) (oe : Obj), H a = none → oe.cls = cls → oe.dict = none → (∃ vs, oe.data = .fields vs ∧ vs[2]? = some .none) →
    ts a { D with nx := fun σ' H' => D.nx (σ'.set i none) H', bk := fun σ' H' => D.bk (σ'.set i none) H', ct := fun σ' H' => D.ct (σ'.set i none) H' } (σ.set i (some (.ref a))) (upd H a (exT oe)))
section
variable {X : Cx} {x n : Str} {c : Value} {i : Nat} {body suite : List Stmt} {b0 : Stmt} {np pos pos' : Pos} {tb : WX → TS} {ts : Addr → TS} {Wout : WX}
theorem ps_tryT (hs : X.stack = X.env :: X.outer) (hf : X.env.frame = some X.env.locals) (hex : X.ex = []) (hN : X.N.Nodup) (hi : X.N[i]? = some n) (hl : X.env.kindOf n = some .local) (hc : Names X x c) (tk : L2N.Takes X Wout)
    (hb : ∀ (W : WX) (pn : List (Addr × Obj)) (xe : Value → Shared → Prop), L2N.Takes (X.tr pn xe) W → PassesOwn (model X.prog X.w) X.A X.env xe → PSs (X.tr pn xe) body (tb W)) (hsu : ∀ (a : Addr) (pn : List (Addr × Obj)), PSs (X.suite a pn) (b0 :: suite) (ts a)) :
    PS X (.Try body [.ExceptHandler (some (.Name x np)) (some n) (b0 :: suite) pos'] [] [] pos) (fun D σ H => tb (wTry X.K c i ts Wout D) D σ H) := by
  refine ⟨fun pins s σ H D I h => wpAny_Try_except ?_⟩
  have ok := I.ok
  have fr : X.A.frames = some (X.env :: X.outer) := by rw [ok.frames, hs]
  have run := (hb (wTry X.K c i ts Wout D) (X.pn ++ pins) (fun e s₁ => wpAny (model X.prog X.w) X.A (noteFrame e X.env) (fun _ s₂ => wpAny (model X.prog X.w) X.A (setFlight e none)
    (fun _ s₃ => wpAny (model X.prog X.w) X.A (handleBy e X.env [.ExceptHandler (some (.Name x np)) (some n) (b0 :: suite) pos']) (SP X pins D) X.xe s₃) X.xe s₂) X.xe s₁) ?caught PassesOwn.looking).run [] s σ H D (I.toTry _) h
  case caught =>
    rintro u s' ⟨a, B, sI, pl, σ', H', cls, d, rfl, J', nb, up, sky, na, os, ag, b, hm, hno, hyes⟩
    have J : Inv X pins σ' H' sI := J'.ofTry ok
    rw [hs] at sky
    refine L2N.Sky.land (env := X.env) (outer := X.outer) (L := X.env.locals) L2N.Zn.steady fr hf sky fun h3 fl up3 => ?_
    obtain ⟨nL, nF, n0, nc, nq⟩ := caught_apart J hs hf hex nb fl
    obtain ⟨o3, v3, e3, z3, d3⟩ := fl.there
    have I3 : Inv X pins σ' H' { s' with heap := h3 } := J.landed nb fl.1 (up.trans up3) os ag
    have S3 := inv_suite I3 a
    have ty : PySem.W.Looks (model X.prog X.w) h3 (typeOf (.ref a)) cls := fun A Q E t k q => wpAny_typeOf_ref (k _ _ e3) (by rw [z3.1]; exact q)
    have LM := PySem.W.exm_one (M := model X.prog X.w) I3.kIn ty hm
    refine wpAny_handleBy_cons (codeAny_handlers_test ?_) (by intro q; cases q)
    have asked : ∀ {Q : Value → Shared → Prop} {E : Value → Shared → Prop}, Q c { s' with heap := h3 } → wpAny (model X.prog X.w) (X.A.mark (some (.ref a))) (eval (.Name x np) X.env) Q E { s' with heap := h3 } := fun q => by
      obtain ⟨g1, g2, g3 | ⟨g3, g4, g5⟩⟩ := hc
      · exact ld_glob (X := X.suite a (X.pn ++ pins)) S3 g1 g3 q g2
      · exact ld_blt (X := X.suite a (X.pn ++ pins)) S3 g1 g3 g4 q g5 g2
    refine asked (LM.here ?_)
    cases b with
    | false =>
      show wpAny _ X.A (handleBy (.ref a) X.env []) _ _ _
      refine wpAny_handleBy_nil ?_
      obtain ⟨_, _, _, oe, vs, T, _, _, he, _, hd, h1, _⟩ := id fl
      have go : wpAny (model X.prog X.w) X.A (setFlight (.ref a) X.env.frame) (fun _ s4 => wpAny (model X.prog X.w) X.A (throw (.ref a) : Sem Flow) (SP X pins D) X.xe s4) X.xe { s' with heap := h3 } := by
        rw [hf]
        exact HandSPX.setFlight_upZ fl fun h4 hd4 up4 => wpAny_throw (tk _ _ ⟨a, B, sI, pins, σ', H', cls, d, rfl, J, nb, (up.trans up3).trans up4, .inr (.inr (by rw [hs]; exact hd4)), na, os, ag, hno rfl⟩)
      unfold PySem.passOn
      refine wpAny_bind (wpAny_field he hd h1 ?_)
      rw [if_neg (show ¬ ((Value.ref T == Value.none) = true) from by simp)]
      first
        | exact wpAny_bind go
        | exact wpAny_bind (wpAny_pure (wpAny_bind go))
    | true =>
      obtain ⟨ed, suiteOk⟩ := hyes rfl
      subst ed
      refine codeAny_handlers_suite_as (HandSPX.lands_againZ fl fun h4 fl4 up4 => ?_)
      obtain ⟨o4, v4, e4, z4, d4⟩ := fl4.there
      have I4 : Inv X pins σ' H' { s' with heap := h4 } := J.landed nb fl4.1 ((up.trans up3).trans up4) os ag
      have S4 := inv_suite (Z.Inv.lock I4 e4 n0 na nL nc nq) a
      refine store_ok (X := X.suite a (X.pn ++ pins)) (v := .ref a) S4 hN hi (.inl hl) rfl (fun s5 S5 => ?_) (.inr hl)
      have gone : ∀ {σ6 : L2.St} {H6 : Hp} {s6 : Shared} {Q : Shared → Prop}, Inv (X.suite a (X.pn ++ pins)) [] σ6 H6 s6 → (∀ s7, Inv X pins (σ6.set i none) H6 s7 → Q s7) →
          wpAny (model X.prog X.w) X.A (do bindName X.env n .none; unbindBehindTheSuite X.env n pos') (fun _ s7 => Q s7) X.xe s6 := fun S6 hq => gone_ok (inv_unsuite S6 ok) hN hi hl hq
      refine wpAny_mono ((hsu a (X.pn ++ pins)).run [] s5 _ _ _ S5 (suiteOk a o4 na z4.1 z4.2.1 ⟨v4, d4, z4.2.2 v4 d4⟩)) (fun f s6 r => ?_) fun _ _ z => z.elim
      cases f with
      | ret u =>
        obtain ⟨v6, σ6, H6, S6, r6, q6⟩ := r
        exact gone S6 fun s7 J7 => ⟨_, _, _, J7, r6, q6⟩
      | next => obtain ⟨σ6, H6, S6, q6⟩ := r; exact gone S6 fun s7 J7 => ⟨_, _, J7, q6⟩
      | brk => obtain ⟨σ6, H6, S6, q6⟩ := r; exact gone S6 fun s7 J7 => ⟨_, _, J7, q6⟩
      | cont => obtain ⟨σ6, H6, S6, q6⟩ := r; exact gone S6 fun s7 J7 => ⟨_, _, J7, q6⟩
  refine wpAny_mono run (fun f s1 r => ?_) fun _ _ z => z
  cases f with
  | ret u => obtain ⟨v, σ', H', J', r', q⟩ := r; exact ⟨v, σ', H', J'.ofTry ok, r', q⟩
  | next => obtain ⟨σ', H', J', q⟩ := r; exact wpAny_execs_nil ⟨σ', H', J'.ofTry ok, q⟩
  | brk => obtain ⟨σ', H', J', q⟩ := r; exact ⟨σ', H', J'.ofTry ok, q⟩
  | cont => obtain ⟨σ', H', J', q⟩ := r; exact ⟨σ', H', J'.ofTry ok, q⟩
end
end Z
namespace Z
open PySem PySem.Spec PyProof.Rows L2
/-! ### defs that are called while an exception is handled -/
def HotA (A : Around) (H : Hp) : Prop := ∃ (x : Addr) (oe : Obj) (vs : Array Value), A.handled = some (.ref x) ∧ H x = some (exT oe) ∧ oe.data = .fields vs ∧ vs[2]? = some .none
structure FnT (P : Program) (w : World) (K : PySem.W.Frag) (mg : Str → Option Value) (base : Heap) (k : Nat) (f : Addr) (fd : FuncData) (ps : List Str) (sp : Sp) : Prop where
  len : ∀ vs H Q E, sp vs H Q E → vs.length = ps.length
  run : ∀ (A : Around) (outer : List Env) (s : Shared) (H : Hp) (args : Args) (us : List Value) (vs : List V) (Q : VK) (E : XK), L2H.RoomH k A → HotA A H → Env0 P w K mg base A outer s H → BindsTo s fd args (ps.zip us) → Vals vs us → sp vs H Q E →
    codeAny (model P w) A (.call (.ref f) args) (CR (L2N.CX P w) outer P w H s Q E) s
theorem FnT.mono {P : Program} {w : World} {K : PySem.W.Frag} {mg : Str → Option Value} {base : Heap} {j k : Nat} {f : Addr} {fd : FuncData} {ps : List Str} {sp : Sp} (F : FnT P w K mg base j f fd ps sp) (h : j ≤ k) : FnT P w K mg base k f fd ps sp :=
  ⟨F.len, fun A outer s H args us vs Q E hr => F.run A outer s H args us vs Q E (hr.mono h)⟩
section
variable {P : Program} {w : World} {K : PySem.W.Frag} {mg : Str → Option Value} {base : Heap}
abbrev cxT (P : Program) (w : World) (K : PySem.W.Frag) (mg : Str → Option Value) (base : Heap) (N : List Str) (qual : Str) (scope : Scope) (f : Addr) (cd : Value) (A : Around) (outer : List Env) (s : Shared) (H : Hp) (E : XK) : Cx :=
  { cxOf (L2N.CX P w) P w K mg base N qual scope f cd A outer s H E with calm := false }
/-- as the library's rule of a def's body, where exceptions leave with no context -/
theorem okN {x qual : Str} {st : Stmt} {f : Addr} {fd : FuncData} {N ps : List Str} {k : Nat} {sp : Sp} (F : Fun K x qual st f fd) (S : FnScope N ps (defScope st)) (len : ∀ vs H Q E, sp vs H Q E → vs.length = ps.length)
    (hbody : ∀ (cdv : Value) (A : Around) (outer : List Env) (s : Shared) (H : Hp) (vs : List V) (Q : VK) (E : XK), Room k (A.deeper (envOfC qual (defScope st) s.heap.objs.size f cdv)) → sp vs H Q E →
      ∃ t, PSs (cxOf (L2N.CX P w) P w K mg base N qual (defScope st) f cdv A outer s H E) (defBody st) t ∧ t { nx := fun _ H' => Q .non H', rt := Q } (L2.start N vs) H) : FnOk P w K mg base (L2N.CX P w) (k + 1) f fd ps sp := by
  obtain ⟨_, _, _, _, _, _, cdv, _, _, rfl, lk, hcd⟩ := F.ex
  exact fn_of lk hcd S len fun A outer s H vs Q E hr q => hbody cdv A outer s H vs Q E hr q
theorem okT {x qual : Str} {st : Stmt} {f : Addr} {fd : FuncData} {N ps : List Str} {k : Nat} {sp : Sp} (F : Fun K x qual st f fd) (S : FnScope N ps (defScope st)) (len : ∀ vs H Q E, sp vs H Q E → vs.length = ps.length)
    (hbody : ∀ (cdv : Value) (A : Around) (outer : List Env) (s : Shared) (H : Hp) (vs : List V) (Q : VK) (E : XK), L2H.RoomH k (A.deeper (envOfC qual (defScope st) s.heap.objs.size f cdv)) → HotX (cxT P w K mg base N qual (defScope st) f cdv A outer s H E) → sp vs H Q E →
      ∃ t, PSs (cxT P w K mg base N qual (defScope st) f cdv A outer s H E) (defBody st) t ∧ t { nx := fun _ H' => Q .non H', rt := Q } (L2.start N vs) H) : FnT P w K mg base (k + 1) f fd ps sp := by
  obtain ⟨_, _, _, _, _, _, cdv, _, _, rfl, lk, hcd⟩ := F.ex
  refine ⟨len, fun A outer s H args us vs Q E hr hot e0 hb r q => ?_⟩
  have kin : K.In s.heap := e0.mod.kin.keeps fun b o e => (e0.bs b o e).1
  have kinds : ∀ y ∈ ps.zip us, (defScope st).names.lookup y.1 = some .local ∨ ((defScope st).names.lookup y.1 = some .cell ∧ ((cellsFrom (s.heap.objs.size + 1) (defScope st).names []).lookup y.1).isSome = true) := fun ⟨n, v⟩ hy =>
    (S.par n (List.of_mem_zip hy).1).elim .inl fun z => .inr ⟨z, PySem.W.cellsFrom_some _ _ _ (.inl z)⟩
  refine codeAny_call_function hr.depth (kin _ _ lk) rfl S.co S.gen rfl (PySem.W.codeRec_of kin hcd) (hb _ _ _ _ (wpAny_newFunctionEnv_cells S.kind kinds fun env he s1 x => ?_))
  subst he
  refine ⟨(e0.mod.nolimit.keeps fun b o e => (e0.bs b o e).1).keeps x.toInCall.keep, codeAny_func ?_⟩
  have hx : HotX (cxT P w K mg base N qual (defScope st) f cdv A outer s H E) := by
    obtain ⟨y, oe, fs, a1, a2, a3⟩ := hot
    exact ⟨y, oe, fs, a1, a2, a3⟩
  obtain ⟨t, ht, hq⟩ := hbody cdv A outer s H vs Q E (hr.deeper _) hx q
  have e0' : Env0 P w K mg base { A with handled := none } outer s H := { e0 with frames := e0.frames }
  have I0 := inv_start (CX := L2N.CX P w) (E := E) (qual := qual) (f := f) (cd := cdv) S (A := { A with handled := none }) rfl e0' (len _ _ _ _ q) r x
  have I : Inv (cxT P w K mg base N qual (defScope st) f cdv A outer s H E) [] (L2.start N vs) H s1 :=
    { I0 with ok := { I0.ok with hd := fun z => Bool.noConfusion (show false = true from z), frames := Around.frames_deeper e0.frames } }
  refine wpAny_mono (ht.run [] s1 (L2.start N vs) H _ I hq) (fun fl s' z => ?_) fun _ _ z => z
  cases fl with
  | ret u => obtain ⟨v, _, H', J, rv, z⟩ := z; exact ⟨v, H', J.os, J.bare, J.base, J.hok, rv, z⟩
  | next => obtain ⟨_, H', J, z⟩ := z; exact ⟨V.non, H', J.os, J.bare, J.base, J.hok, rfl, z⟩
  | brk => obtain ⟨_, _, _, z⟩ := z; exact z.elim
  | cont => obtain ⟨_, _, _, z⟩ := z; exact z.elim
end
section
variable {X : Cx} {k : Nat} {f : Addr} {fd : FuncData} {ps : List Str} {sp : Sp} {x : Str} {p pos : Pos} {e : Expr} {es : List Expr} {t : TA}
def tCallT (A : Around) (sp : Sp) (t : TA) : TE := fun σ H Q => t σ H fun vs H1 => HotA A H1 ∧ sp vs H1 Q fun _ _ _ => False
theorem pe_callT (F : FnT X.prog X.w X.K X.mg X.base k f fd ps sp) (hr : L2H.RoomH k X.A) (hg : Gl X x) (hm : X.mg x = some (.ref f)) (hk : PySem.W.keepIn X.K (.ref f) = true) (hb : Binds X.K fd ps []) (ha : PA X (e :: es) t) (hdb : (x == ("__debug__" : Str)) = false)
    (he : starEach (e :: es) X.env = (false, eval e X.env) :: starEach es X.env) (hpl : (backTo pos (starEach es X.env)).any (·.1) = false) : PE X (.Call (.Name x p) (e :: es) [] pos) (tCallT X.A sp t) := by
  refine ⟨fun pins s σ H Q I h => wpAny_Call_Name_kw (ld_glob I hg hm ?_ hdb)⟩
  refine PySem.W.callWith_K (h₀ := X.base) I.ok.mod.kin hk (thn (ha.run pos pins s σ H _ I h) fun us s1 ⟨vs, H1, I1, r, hot, q⟩ => ⟨I1.kIn, ?_⟩) he hpl
  have hl : us.length = ps.length := by rw [← r.length]; exact F.len _ _ _ _ q
  have b := hb s1 us I1.kIn (by rw [List.append_nil]; exact hl)
  rw [List.append_nil] at b
  refine wpAny_call (codeAny_mono (F.run X.A X.stack s1 H1 ⟨us, []⟩ us vs Q _ hr hot I1.env0 b r q) fun res s' z => ?_)
  cases res with
  | error u => obtain ⟨_, _, _, _, _, _, _, _, _, _, _, _, z⟩ := z; exact z.elim
  | ok fl =>
    cases fl with
    | ret u => exact I1.after z
    | next => exact z.elim
    | brk => exact z.elim
    | cont => exact z.elim
end
/-! ### isinstance of a caught exception -/
section
variable {X : Cx}
def rIsX (K : PySem.W.Frag) : List V → Hp → VK → Prop := fun xs H Q => ∃ (a C : Addr) (oe : Obj) (c : V) (cv : Value) (b : Bool), xs = [.ref a, c] ∧ H a = some (exT oe) ∧ oe.cls = .ref C ∧ oe.dict = none ∧ (∃ vs, oe.data = .fields vs) ∧ ExcC K C ∧ ClsV c cv ∧ PySem.W.kitOne K (.ref C) cv = some b ∧ Q (.bl b) H
theorem call_isX : CallR X (.builtin "isinstance") (rIsX X.K) := by
  intro pins s σ H xs us Q I r h
  obtain ⟨a, C, oe, c, cv, b, rfl, ha, h1, h2, ⟨vs, h3⟩, ec, kc, e, q⟩ := h
  obtain ⟨u1, u2, rfl, r1, r2⟩ := vals2 r
  obtain rfl : u1 = Value.ref a := r1
  have e2 := kc.eq r2
  subst e2
  have J : PySem.W.InstAt s.heap a oe C none := by
    have g := exT_get I.hok ha
    obtain ⟨o1, o2, o3, o4⟩ := oe
    dsimp only at h1 h2 h3
    subst h1 h2 h3
    exact ⟨g, rfl, rfl, trivial⟩
  exact PySem.W.kia_one (PySem.W.handS_kitx_exc ec.hg ec.hk ec.hs ec.hd ec.ha ec.hn ec.ht ec.hm) I.kIn J e (fun z => nomatch z) fun tk => ⟨.bl b, H, I.kept (t' := tk) fun _ _ z => z, rfl, q⟩
end
end Z

namespace Z
open PySem PySem.Spec PyProof.Rows L2
section
variable {X : Cx} {W : Wi} {pos : Pos}
/-! ### a call of a def that writes at its one parameter, with what is new -/
theorem Rl.growN {K : PySem.W.Frag} {G : Gh} {δ : En} {σ : L2.St} {H0 H H0' H' : Hp} {a : Addr} (R : Rl K G δ σ H0 H) (ne : G.He a = none) (nw : ∀ (j : Nat) (s : Sl), δ[j]? = some s → isOwn s = true → σ[j]? ≠ some (some (V.ref a))) (g : GrP a H0 H H0' H') :
    Rl K G δ σ H0' H' := by
  have heH : ∀ b, G.He b ≠ none → H b ≠ none := fun b e q => e (R.he.free q)
  refine ⟨g.s', fun b w e => g.hs b w (ne_of_none e ne) (R.he b w e), R.hf.trans g.h0, fun b e => by rw [g.hn b (heH b e), R.hn b e], R.len, fun j t x h1 h2 => ?_, R.dj, R.pn⟩
  have q := R.sl j t x h1 h2
  have nea : ∀ c, isOwn t = true → x = some (.ref c) → c ≠ a := fun c ho hx z => by
    subst hx z
    exact nw j t h1 ho h2
  have key : ∀ {c : Addr} {o : O}, c ≠ a → H0 c = none → OwnAt K H0 H c o → H0' c = none ∧ OwnAt K H0' H' c o := fun {c o} hc n w => by
    have ne := w.some_
    refine ⟨by rw [g.hn c ne, n], w.mono g.h0 ?_⟩
    cases q : H c with
    | none => exact absurd q ne
    | some z => exact g.hs c z hc q
  cases t with
  | no => trivial
  | va d => obtain ⟨v, e, r⟩ := q; exact ⟨v, e, r.mono g.h0⟩
  | ow o => obtain ⟨c, e, n, f, w⟩ := q; have k := key (nea c rfl e) n w; exact ⟨c, e, k.1, f, k.2⟩
  | pi o => obtain ⟨c, e, n, f, w, p⟩ := q; have k := key (nea c rfl e) n w; exact ⟨c, e, k.1, f, k.2, p⟩
def ofN (r : RD) (δ : En) : RE := match r with
  | .okp d _ => .ok d δ
  | .owp r _ => .ok (ownD r) δ
  | _ => .bad
def ofNF (r : RD) (δ : En) : RF := match r with
  | .owp r _ => .ok r δ
  | _ => .bad
def callNK (g : List D → RD) : RF → RE
  | .ok o δ => ofN (g [ownD o]) δ
  | .rz c δ => .rz c δ
  | .bad => .bad
def callNKF (g : List D → RD) : RF → RF
  | .ok o δ => ofNF (g [ownD o]) δ
  | .rz c δ => .rz c δ
  | .bad => .bad
def dCallN (g : List D → RD) (f : FDen) : Den := fun δ => callNK g (f δ)
def fCallN (g : List D → RD) (f : FDen) : FDen := fun δ => callNKF g (f δ)
theorem me_callN {CX : CXT} {k : Nat} {f : Addr} {fd : FuncData} {ps : List Str} {x : Str} {p : Pos} {e : Expr} {g : List D → RD} {ff : FDen}
    (F : FnOk X.prog X.w X.K X.mg X.base CX k f fd ps (spP X.K 1 0 g)) (hr : Room k X.A) (hg : Gl X x) (hm : X.mg x = some (.ref f)) (hk : PySem.W.keepIn X.K (.ref f) = true) (hb : Binds X.K fd ps []) (hx : ∀ σ, PassesAt CX X σ (WE W.w σ)) (hdb : (x == ("__debug__" : Str)) = false)
    (ha : PE X e (tF X.K W ff)) (he : starEach [e] X.env = [(false, eval e X.env)]) : PE X (.Call (.Name x p) [e] [] pos) (tM X.K W (dCallN g ff)) := by
  refine PE_imp (pe_callS F hr hg hm hk hb hx (pa_cons ha pa_nil he) hdb he rfl) fun σ H Q ⟨G, δ, H0, R, z⟩ => ⟨G, δ, H0, R, ?_⟩
  unfold dCallN at z
  cases eA : ff δ with
  | bad => rw [eA] at z; exact z
  | rz c δ1 => rw [eA] at z; exact z
  | ok o δ1 =>
    rw [eA] at z
    intro a H1 H' R1 s1 n0 ne w nw
    have z : PoE X.K W G σ H0 (ofN (g [ownD o]) δ1) Q := z
    refine ⟨H1, [ownD o], a, o, R1.hs, rfl, rfl, rfl, rfl, n0, w, fun j v d hj e1 e2 => ?_, ?_⟩
    · cases j with
      | zero => exact absurd rfl hj
      | succ j => simp at e1
    · cases hg : g [ownD o] with
      | okp d o' => rw [hg] at z; exact fun v H2 H'' gr n1 w' r => z v H2 H'' (R1.growN ne nw gr) (s1.trans gr.h0) r
      | owp b o' =>
        rw [hg] at z
        exact fun v H2 H'' gr n1 w' nb nb1 wb => read_in z (R1.growN ne nw gr) (s1.trans gr.h0) nb1 (R1.he_none nb) wb (R1.own_ne nb)
      | ok d => rw [hg] at z; exact z.elim
      | ow d => rw [hg] at z; exact z.elim
      | rz c => rw [hg] at z; exact z.elim
      | bad => rw [hg] at z; exact z.elim
theorem mf_callN {CX : CXT} {k : Nat} {f : Addr} {fd : FuncData} {ps : List Str} {x : Str} {p : Pos} {e : Expr} {g : List D → RD} {ff : FDen}
    (F : FnOk X.prog X.w X.K X.mg X.base CX k f fd ps (spP X.K 1 0 g)) (hr : Room k X.A) (hg : Gl X x) (hm : X.mg x = some (.ref f)) (hk : PySem.W.keepIn X.K (.ref f) = true) (hb : Binds X.K fd ps []) (hx : ∀ σ, PassesAt CX X σ (WE W.w σ)) (hdb : (x == ("__debug__" : Str)) = false)
    (ha : PE X e (tF X.K W ff)) (he : starEach [e] X.env = [(false, eval e X.env)]) : PE X (.Call (.Name x p) [e] [] pos) (tF X.K W (fCallN g ff)) := by
  refine PE_imp (pe_callS F hr hg hm hk hb hx (pa_cons ha pa_nil he) hdb he rfl) fun σ H Q ⟨G, δ, H0, R, z⟩ => ⟨G, δ, H0, R, ?_⟩
  unfold fCallN at z
  cases eA : ff δ with
  | bad => rw [eA] at z; exact z
  | rz c δ1 => rw [eA] at z; exact z
  | ok o δ1 =>
    rw [eA] at z
    intro a H1 H' R1 s1 n0 ne w nw
    have z : PoF X.K W G σ H0 (ofNF (g [ownD o]) δ1) Q := z
    refine ⟨H1, [ownD o], a, o, R1.hs, rfl, rfl, rfl, rfl, n0, w, fun j v d hj e1 e2 => ?_, ?_⟩
    · cases j with
      | zero => exact absurd rfl hj
      | succ j => simp at e1
    · cases hg : g [ownD o] with
      | okp d o' => rw [hg] at z; exact z.elim
      | owp b o' =>
        rw [hg] at z
        exact fun v H2 H'' gr n1 w' nb nb1 wb => z v H2 H'' (R1.growN ne nw gr) (s1.trans gr.h0) nb1 (R1.he_none nb) wb (R1.own_ne nb)
      | ok d => rw [hg] at z; exact z.elim
      | ow d => rw [hg] at z; exact z.elim
      | rz c => rw [hg] at z; exact z.elim
      | bad => rw [hg] at z; exact z.elim
/-! ### how many unlike tuples of whole numbers -/
def tupsOf : List D → Option (List (List Int))
  | [] => some []
  | .tup es :: ds => (intsOf es).bind fun k => (tupsOf ds).map (k :: ·)
  | _ => none
def cntT : List (List Int) → Nat
  | [] => 0
  | k :: ks => if k ∈ ks then cntT ks else cntT ks + 1
def dstD : D → Option D
  | .lst ds => if ds.length < 64 then (tupsOf ds).map fun ks => .int (cntT ks : Nat) else none
  | _ => none
def ddT : List (List Int) → List (List Int)
  | [] => []
  | k :: ks => if k ∈ ks then ddT ks else k :: ddT ks
theorem ddT_mem : ∀ {ks : List (List Int)} {x : List Int}, x ∈ ddT ks ↔ x ∈ ks
  | [], x => Iff.rfl
  | k :: ks, x => by
    unfold ddT
    split
    · rename_i h
      rw [ddT_mem, List.mem_cons]
      exact ⟨.inr, fun h' => h'.elim (fun e => e ▸ h) id⟩
    · rw [List.mem_cons, List.mem_cons, ddT_mem]
theorem ddT_nd : ∀ {ks : List (List Int)}, (ddT ks).Nodup
  | [] => .nil
  | k :: ks => by
    unfold ddT
    split
    · exact ddT_nd
    · rename_i h
      exact List.nodup_cons.mpr ⟨fun h' => h (ddT_mem.mp h'), ddT_nd⟩
theorem ddT_len : ∀ ks : List (List Int), (ddT ks).length = cntT ks
  | [] => rfl
  | k :: ks => by
    unfold ddT cntT
    split
    · exact ddT_len ks
    · rw [List.length_cons, ddT_len ks]
theorem nodup_le {α : Type} [DecidableEq α] : ∀ (l D : List α), l.Nodup → (∀ x ∈ l, x ∈ D) → l.length ≤ D.length
  | [], _, _, _ => Nat.zero_le _
  | x :: l, D, hn, hs => by
    obtain ⟨h1, h2⟩ := List.nodup_cons.mp hn
    have hx : x ∈ D := hs x List.mem_cons_self
    have ih := nodup_le l (D.erase x) h2 fun y hy => by
      have hne : y ≠ x := fun e => h1 (e ▸ hy)
      exact (List.mem_erase_of_ne hne).2 (hs y (List.mem_cons_of_mem _ hy))
    have e := List.length_erase_of_mem hx
    have hp : 0 < D.length := List.length_pos_of_mem hx
    rw [List.length_cons]
    omega
theorem cntT_of {L ks : List (List Int)} (hn : L.Nodup) (h1 : ∀ x ∈ L, x ∈ ks) (h2 : ∀ x ∈ ks, x ∈ L) : L.length = cntT ks := by
  rw [← ddT_len]
  exact Nat.le_antisymm (nodup_le _ _ hn fun x hx => ddT_mem.mpr (h1 x hx)) (nodup_le _ _ ddT_nd fun x hx => h2 x (ddT_mem.mp hx))
def tLenSetT (K : PySem.W.Frag) (ta : TE) : TE := fun σ H Q => ta σ H fun x H1 => ∃ (l : Addr) (ks : List (Addr × List Int)), x = V.ref l ∧ SqL K H1 l (ks.map fun p => V.ref p.1) ∧ (∀ p ∈ ks, SqT K H1 p.1 (p.2.map V.int)) ∧ ks.length < 64 ∧ Q (.int (cntT (ks.map (·.2)) : Nat)) H1
theorem pe_lenSetT {a : Expr} {ta : TE} {p p2 q pos : Pos} (hc : X.calm = true) (hu : X.A.units + 64 < cLine) (hg : Gl X "len") (hm : X.mg "len" = none) (hg2 : Gl X "set") (hm2 : X.mg "set" = none) (ha : PE X a ta)
    (na : starEach [a] X.env = (false, eval a X.env) :: starEach [] X.env := by rfl) : PE X (.Call (.Name "len" p) [.Call (.Name "set" p2) [a] [] q] [] pos) (tLenSetT X.K ta) := by
  refine ⟨fun pins s σ H Q I h => ?_⟩
  refine Call_ (ld_blt I hg hm PySem.boot_len ?_)
  refine PyProof.Rows.callWith_builtin1 (PyProof.Rows.args_cons ?_ rfl) rfl rfl
  refine Call_ (ld_blt I hg2 hm2 PyProof.Rows.boot_set ?_)
  refine PyProof.Rows.callWith_type1 (PyProof.Rows.args_cons (thn (ha.run pins s σ H _ I h) fun v s1 ⟨x, H1, I1, r1, q1⟩ => PyProof.Rows.args_nil ?_) na) na rfl
  obtain ⟨l, ks, rfl, hl, hk, hf, q1⟩ := q1
  cases r1
  obtain ⟨its, rv, pl, hz⟩ := I1.list hl
  refine call_set_tups (P := X.prog) (w := X.w) ks (I1.ok.hd hc) pl.isList (by simpa using refs_of_vals rv) (fun p hp => I1.isT (hk p hp)) hf (by omega) fun h' tk L es ep t R g k => ?_
  refine PyProof.Rows.args_nil ?_
  obtain ⟨o, ho, hex, hd⟩ := R.ob
  have I2 : Inv X pins σ H1 { s1 with heap := h', toks := tk } := I1.kept k
  have sz : es.size = L.length := SetTR.size (s := { s1 with heap := h', toks := tk }) R
  have ft : t.fits es.size = true := SetTR.fits (s := { s1 with heap := h', toks := tk }) R
  have fw := R.few
  have e : L.length = cntT (ks.map (·.2)) := by
    rw [← List.length_map (f := (·.2))]
    refine cntT_of R.nd (fun x hx => ?_) fun x hx => ?_
    · obtain ⟨p, hp, rfl⟩ := List.mem_map.mp hx
      exact List.mem_map.mpr ⟨p, List.mem_of_mem_take (g.sub p hp), rfl⟩
    · obtain ⟨p, hp, rfl⟩ := List.mem_map.mp hx
      exact g.all p (by rw [List.take_length]; exact hp)
  refine call_len_set ho hex hd ft (by rw [sz]; omega) ⟨.int (cntT (ks.map (·.2)) : Nat), H1, I2.tok _, ⟨_, by rw [sz, e]⟩, q1⟩
theorem reps_tups {K : PySem.W.Frag} {H : Hp} : ∀ {vs : List V} {ds : List D} {ns : List (List Int)}, Reps K H vs ds → tupsOf ds = some ns → ∃ ks : List (Addr × List Int), vs = ks.map (fun p => V.ref p.1) ∧ ns = ks.map (·.2) ∧ ∀ p ∈ ks, SqT K H p.1 (p.2.map V.int)
  | _, _, _, .nil, h => by cases h; exact ⟨[], rfl, rfl, fun _ h => nomatch h⟩
  | _, _, _, .cons (d := d) (ds := ds) r t, h => by
    cases d with
    | tup es =>
      unfold tupsOf at h
      cases e : intsOf es with
      | none => rw [e] at h; cases h
      | some k =>
        rw [e] at h
        have h : (tupsOf ds).map (k :: ·) = some _ := h
        cases e2 : tupsOf ds with
        | none => rw [e2] at h; cases h
        | some ks0 =>
          rw [e2] at h
          cases h
          obtain ⟨ks, e3, e4, e5⟩ := reps_tups t e2
          subst e3 e4
          cases r with
          | tup hs rs =>
            have := reps_ints rs e
            subst this
            exact ⟨(_, k) :: ks, rfl, rfl, fun p hp => (List.mem_cons.mp hp).elim (fun q => by subst q; exact hs) (e5 p)⟩
    | _ => cases h
theorem me_dst {a : Expr} {fa : Den} {p p2 q pos : Pos} (hc : X.calm = true) (hu : X.A.units + 64 < cLine) (hg : Gl X "len") (hm : X.mg "len" = none) (hg2 : Gl X "set") (hm2 : X.mg "set" = none) (ha : PE X a (tM X.K W fa))
    (na : starEach [a] X.env = [(false, eval a X.env)]) : PE X (.Call (.Name "len" p) [.Call (.Name "set" p2) [a] [] q] [] pos) (tM X.K W (dUn dstD fa)) :=
  PE_imp (pe_lenSetT hc hu hg hm hg2 hm2 ha na) fun σ H Q ⟨G, δ, H0, R, h⟩ => ⟨G, δ, H0, R, PoE.bind h fun d δ1 v H01 H1 R1 s1 r1 h1 => by
    obtain ⟨z, hz, h3⟩ := ofO_some h1
    unfold dstD at hz
    split at hz
    · rename_i ds
      split at hz
      · rename_i hl
        cases e : tupsOf ds with
        | none => rw [e] at hz; cases hz
        | some ns =>
          rw [e] at hz
          cases hz
          cases r1 with
          | lst hs rs =>
            obtain ⟨ks, e3, e4, e5⟩ := reps_tups rs e
            subst e3 e4
            refine ⟨_, ks, rfl, R1.hs.seq hs, fun p hp => Same.seqT R1.hs (e5 p hp), ?_, h3.val R1 (.int _)⟩
            have l := rs.length
            rw [List.length_map] at l
            omega
      · cases hz
    · cases hz⟩
/-! ### a < b < c -/
def chnK2 (g' : D → D → Option D) (y : D) : D → En → RE := fun z δ => ofO (g' y z) δ
def chnK1 (g' : D → D → Option D) (fc : Den) (y : D) (o : Option D) (δ : En) : RE :=
  match o with
  | some (.bl true) => bindE (fc δ) (chnK2 g' y)
  | some (.bl false) => .ok (.bl false) δ
  | _ => .bad
def chnK (g g' : D → D → Option D) (fc : Den) (x : D) : D → En → RE := fun y δ => chnK1 g' fc y (g x y) δ
def chnK0 (g g' : D → D → Option D) (fb fc : Den) : D → En → RE := fun x δ => bindE (fb δ) (chnK g g' fc x)
def dChn (g g' : D → D → Option D) (fa fb fc : Den) : Den := fun δ => bindE (fa δ) (chnK0 g g' fb fc)
theorem chn_read {g g' : D → D → Option D} {fa fb fc : Den} {σ : L2.St} {H : Hp} {Q : VK} (gs : ∀ x y z, g x y = some z → ∃ b, z = .bl b) (h : tM X.K W (dChn g g' fa fb fc) σ H Q) :
    tChain (rM X.K g) (rM X.K g') (tM X.K W fa) (tM X.K W fb) (tM X.K W fc) σ H Q := by
  obtain ⟨G, δ, H0, R, h⟩ := h
  refine ⟨G, δ, H0, R, PoE.bind h fun d δ1 v H01 H1 R1 s1 r1 h1 => ⟨G, δ1, H01, R1, PoE.bind h1 fun e δ2 w H02 H2 R2 s2 r2 h2 => ?_⟩⟩
  have h2 : PoE X.K W G σ H02 (chnK1 g' fc e (g d e) δ2) Q := h2
  cases ho : g d e with
  | none => rw [ho] at h2; exact h2.elim
  | some z =>
    obtain ⟨b, rfl⟩ := gs _ _ _ ho
    rw [ho] at h2
    refine ⟨H02, d, e, .bl b, R2.hs, r1.mono s2, r2, ho, fun u H03 H3 gr r => ?_⟩
    cases r
    refine ⟨b, rfl, ?_⟩
    have R3 := R2.grow gr
    cases b with
    | false => exact (h2.up gr.h0).val R3 (.bl _)
    | true =>
      have h2 : PoE X.K W G σ H02 (bindE (fc δ2) (chnK2 g' e)) Q := h2
      refine ⟨G, δ2, H03, R3, PoE.bind (h2.up gr.h0) fun f δ3 w3 H04 H4 R4 s4 r4 h4 => ?_⟩
      obtain ⟨z, hz, h5⟩ := ofO_some h4
      exact ⟨H04, e, f, z, R4.hs, (r2.mono gr.h0).mono s4, r4, hz, fun u H05 H5 g r => h5.new R4 g r⟩
theorem cop_bl {o : COp} {x y z : D} (h : o.fn x y = some z) : ∃ b, z = .bl b := by
  have key : ∀ {p : Int → Int → Bool}, cmpI p x y = some z → ∃ b, z = .bl b := fun {p} h => by
    unfold cmpI at h
    split at h
    · cases h; exact ⟨_, rfl⟩
    · cases h
  cases o with
  | eq =>
    have h : (eqX x y).map D.bl = some z := h
    cases e : eqX x y with
    | none => rw [e] at h; cases h
    | some b => rw [e] at h; cases h; exact ⟨_, rfl⟩
  | ne =>
    have h : ((eqD x y).map fun b => D.bl (!b)) = some z := h
    cases e : eqD x y with
    | none => rw [e] at h; cases h
    | some b => rw [e] at h; cases h; exact ⟨_, rfl⟩
  | isin =>
    have h : (inD x y).map D.bl = some z := h
    cases e : inD x y with
    | none => rw [e] at h; cases h
    | some b => rw [e] at h; cases h; exact ⟨_, rfl⟩
  | notin =>
    have h : ((inD x y).map fun b => D.bl (!b)) = some z := h
    cases e : inD x y with
    | none => rw [e] at h; cases h
    | some b => rw [e] at h; cases h; exact ⟨_, rfl⟩
  | lt => exact key h
  | le => exact key h
  | gt => exact key h
  | ge => exact key h
theorem me_chn {o o' : COp} {a b c : Expr} {fa fb fc : Den} (hu : X.A.units + 65 < cLine) (ha : PE X a (tM X.K W fa)) (hb : PE X b (tM X.K W fb)) (hc : PE X c (tM X.K W fc)) (hm : lastMarks [o.op, o'.op] [b, c] = false) :
    PE X (.Compare a [o.op, o'.op] [b, c] pos) (tM X.K W (dChn o.fn o'.fn fa fb fc)) ∧ PT X (.Compare a [o.op, o'.op] [b, c] pos) (tT X.K W (dChn o.fn o'.fn fa fb fc)) :=
  ⟨PE_imp (pe_chain (opC o hu) (opC o' hu) ha hb hc hm) fun σ H Q h => chn_read (fun _ _ _ h => cop_bl h) h,
   PT_imp (pt_chain (opC o hu) (opC o' hu) ha hb hc hm) fun σ H Q ⟨G, δ, H0, R, h⟩ => chn_read (fun _ _ _ h => cop_bl h) ⟨G, δ, H0, R, h.toE⟩⟩
/-! ### n.bit_length() -/
def bitD : D → Option D
  | .int i => some (.int (Builtin.Int.intBits i : Nat))
  | _ => none
theorem me_bitl {n : Str} {p apos cpos : Pos} {f : Den} (ha : PE X (.Name n p) (tM X.K W f)) (hline : (apos.endLine == cpos.line) = true) : PE X (.Call (.Attribute (.Name n p) "bit_length" apos) [] [] cpos) (tM X.K W (dUn bitD f)) :=
  PE_imp (pe_bits ha rfl hline) fun σ H Q ⟨G, δ, H0, R, h⟩ => ⟨G, δ, H0, R, PoE.bind h fun d δ1 v H01 H1 R1 s1 r1 h1 => by
    obtain ⟨z, hz, h3⟩ := ofO_some h1
    unfold bitD at hz
    split at hz
    · cases hz
      cases r1
      exact ⟨_, rfl, h3.val R1 (.int _)⟩
    · cases hz⟩
/-! ### dicts of pairs -/
def putD (kvs : List (Key × D)) (k : Key) (v : D) : List (Key × D) :=
  if (kvs.any fun kv => decide (kv.1 = k)) = true then kvs.map (fun kv => if kv.1 = k then (kv.1, v) else kv) else kvs ++ [(k, v)]
def mergeD (kvs more : List (Key × D)) : List (Key × D) := more.foldl (fun acc kv => putD acc kv.1 kv.2) kvs
inductive RK (K : PySem.W.Frag) (H : Hp) : List (Key × V) → List (Key × D) → Prop
  | nil : RK K H [] []
  | cons {k : Key} {v : V} {d : D} {a : List (Key × V)} {b : List (Key × D)} : Rep K H v d → RK K H a b → RK K H ((k, v) :: a) ((k, d) :: b)
theorem RK.any {K : PySem.W.Frag} {H : Hp} {k : Key} : ∀ {a : List (Key × V)} {b : List (Key × D)}, RK K H a b → (a.any fun kv => decide (kv.1 = k)) = (b.any fun kv => decide (kv.1 = k))
  | _, _, .nil => rfl
  | _, _, .cons _ r => by rw [List.any_cons, List.any_cons, r.any]
theorem RK.upd_ {K : PySem.W.Frag} {H : Hp} {k : Key} {v : V} {d : D} (h : Rep K H v d) : ∀ {a : List (Key × V)} {b : List (Key × D)}, RK K H a b → RK K H (a.map (fun kv => if kv.1 = k then (kv.1, v) else kv)) (b.map (fun kv => if kv.1 = k then (kv.1, d) else kv))
  | _, _, .nil => .nil
  | _, _, .cons (k := k') q r => by
    rw [List.map_cons, List.map_cons]
    by_cases e : k' = k
    · simp only [e, if_true]
      exact .cons h (RK.upd_ h r)
    · simp only [e, if_false]
      exact .cons q (RK.upd_ h r)
theorem RK.snoc {K : PySem.W.Frag} {H : Hp} {k : Key} {v : V} {d : D} (h : Rep K H v d) : ∀ {a : List (Key × V)} {b : List (Key × D)}, RK K H a b → RK K H (a ++ [(k, v)]) (b ++ [(k, d)])
  | _, _, .nil => .cons h .nil
  | _, _, .cons q r => .cons q (RK.snoc h r)
theorem RK.put {K : PySem.W.Frag} {H : Hp} {k : Key} {v : V} {d : D} {a : List (Key × V)} {b : List (Key × D)} (r : RK K H a b) (h : Rep K H v d) : RK K H (putK a k v) (putD b k d) := by
  unfold putK putD
  rw [r.any (k := k)]
  split
  · exact r.upd_ h
  · exact r.snoc h
theorem RK.merge {K : PySem.W.Frag} {H : Hp} {m : List (Key × V)} {n : List (Key × D)} (h : RK K H m n) : ∀ {a : List (Key × V)} {b : List (Key × D)}, RK K H a b → RK K H (mergeK a m) (mergeD b n) := by
  induction h with
  | nil => intro a b r; exact r
  | cons h t ih => intro a b r; exact ih (r.put h)
theorem RK.parts {K : PySem.W.Frag} {H : Hp} : ∀ {a : List (Key × V)} {b : List (Key × D)}, RK K H a b → a = (b.map (·.1)).zip (a.map (·.2)) ∧ (b.map (·.1)).length = (a.map (·.2)).length ∧ Reps K H (a.map (·.2)) (b.map (·.2))
  | _, _, .nil => ⟨rfl, rfl, .nil⟩
  | _, _, .cons h r => by
    obtain ⟨e1, e2, e3⟩ := r.parts
    exact ⟨by simp only [List.map_cons, List.zip_cons_cons]; rw [← e1], by simp only [List.map_cons, List.length_cons]; rw [e2], .cons h e3⟩
theorem RK.mono {K : PySem.W.Frag} {H H' : Hp} (s : Same H H') : ∀ {a : List (Key × V)} {b : List (Key × D)}, RK K H a b → RK K H' a b
  | _, _, .nil => .nil
  | _, _, .cons h r => .cons (h.mono s) (r.mono s)
/-- the dict of some pairs, of which later ones win -/
def dicO (kvs : List (Key × D)) : O := .dic ((mergeD [] kvs).map (·.1)) ((mergeD [] kvs).map (·.2))
theorem dicO_own {K : PySem.W.Frag} {H0 H : Hp} {p : Addr} {kvs : List (Key × V)} {kds : List (Key × D)} (r : RK K H0 kvs kds) (h : H p = some (.dK (mergeK [] kvs))) : OwnAt K H0 H p (dicO kds) := by
  obtain ⟨e1, e2, e3⟩ := (RK.merge r (.nil : RK K H0 [] [])).parts
  exact ⟨(mergeK [] kvs).map (·.2), by rw [h, ← e1], e2, e3⟩
def keyD : D → Option Key
  | .int i => some (.inl i)
  | .str x => some (.inr x)
  | _ => none
def pairsD : List D → Option (List (Key × D))
  | [] => some []
  | .tup [k, v] :: ds => (keyD k).bind fun k => (pairsD ds).map ((k, v) :: ·)
  | _ => none
theorem rep_key {K : PySem.W.Frag} {H : Hp} {v : V} {d : D} {k : Key} (r : Rep K H v d) (h : keyD d = some k) : v = kV k := by
  cases d with
  | int i => cases h; cases r; rfl
  | str i => cases h; cases r; rfl
  | _ => cases h
theorem reps_pairs {K : PySem.W.Frag} {H : Hp} : ∀ {vs : List V} {ds : List D} {kds : List (Key × D)}, Reps K H vs ds → pairsD ds = some kds → ∃ (ps : List Addr) (kvs : List (Key × V)), vs = ps.map V.ref ∧ Paired (fun p kv => SqT K H p [kV kv.1, kv.2]) ps kvs ∧ RK K H kvs kds
  | _, _, _, .nil, h => by cases h; exact ⟨[], [], rfl, .nil, .nil⟩
  | _, _, _, .cons (d := d) (ds := ds) r t, h => by
    match d, r, h with
    | .tup [k, v], r, h =>
      have h : ((keyD k).bind fun k => (pairsD ds).map ((k, v) :: ·)) = some _ := h
      cases e : keyD k with
      | none => rw [e] at h; cases h
      | some kk =>
        rw [e] at h
        have h : (pairsD ds).map ((kk, v) :: ·) = some _ := h
        cases e2 : pairsD ds with
        | none => rw [e2] at h; cases h
        | some kds0 =>
          rw [e2] at h
          cases h
          obtain ⟨ps, kvs, e3, e4, e5⟩ := reps_pairs t e2
          subst e3
          cases r with
          | tup hs rs =>
            obtain ⟨x, y, rfl, rx, ry⟩ := reps2 rs
            have ex := rep_key rx e
            subst ex
            exact ⟨_ :: ps, (kk, y) :: kvs, rfl, .cons hs e4, .cons ry e5⟩
def dctK : D → En → RF
  | .lst ds, δ => (match pairsD ds with
    | some kds => .ok (dicO kds) δ
    | none => .bad)
  | _, _ => .bad
def fDct (f : Den) : FDen := fun δ => bindEF (f δ) dctK
theorem mf_dct {a : Expr} {fa : Den} {p : Pos} (hc : X.calm = true) (hg : Gl X "dict") (hm : X.mg "dict" = none) (ha : PE X a (tM X.K W fa)) (he : starEach [a] X.env = [(false, eval a X.env)]) : PE X (.Call (.Name "dict" p) [a] [] pos) (tF X.K W (fDct fa)) :=
  PE_imp (pe_callTy (T := "dict") (call_dictP hc) hg hm (by decide +kernel) (pa_cons ha pa_nil he) (by decide) (by decide) he rfl) fun σ H Q ⟨G, δ, H0, R, h⟩ => ⟨G, δ, H0, R, PoE.bindF h fun d δ1 v H1 H' R1 s1 r1 h1 => by
    unfold dctK at h1
    split at h1
    · rename_i ds
      cases e : pairsD ds with
      | none => rw [e] at h1; exact h1.elim
      | some kds =>
        rw [e] at h1
        have h1 : PoF X.K W G σ H1 (.ok (dicO kds) δ1) Q := h1
        cases r1 with
        | lst q rs =>
          obtain ⟨ps, kvs, e3, e4, e5⟩ := reps_pairs rs e
          subst e3
          refine ⟨_, ps, kvs, rfl, R1.hs.seq q, ?_, fun p hp => h1.laid R1 hp (dicO_own e5 upd_same)⟩
          have key : ∀ {ps : List Addr} {kvs : List (Key × V)}, Paired (fun p kv => SqT X.K H1 p [kV kv.1, kv.2]) ps kvs → Paired (fun p kv => SqT X.K H' p [kV kv.1, kv.2]) ps kvs := by
            intro ps kvs h
            induction h with
            | nil => exact .nil
            | cons h t ih => exact .cons (Same.seqT R1.hs h) ih
          exact key e4
    · exact h1.elim⟩
/-- a displayed dict: the values of keys and items in turn -/
def dPrs : List (Den × Den) → En → RA
  | [], δ => .ok [] δ
  | (fk, fv) :: r, δ => consA (fk δ) fun k δ1 => consA (fv δ1) fun v δ2 => bindAA (dPrs r δ2) fun ds δ3 => .ok (k :: v :: ds) δ3
def alts : List D → Option (List (Key × D))
  | [] => some []
  | k :: v :: ds => (keyD k).bind fun k => (alts ds).map ((k, v) :: ·)
  | _ => none
inductive R2s (K : PySem.W.Frag) (H : Hp) : List (V × V) → List D → Prop
  | nil : R2s K H [] []
  | cons {x y : V} {k v : D} {ps : List (V × V)} {ds : List D} : Rep K H x k → Rep K H y v → R2s K H ps ds → R2s K H ((x, y) :: ps) (k :: v :: ds)
theorem R2s.alts {K : PySem.W.Frag} {H : Hp} : ∀ {ps : List (V × V)} {ds : List D} {kds : List (Key × D)}, R2s K H ps ds → Z.alts ds = some kds → ∃ kvs : List (Key × V), ps = kvs.map (fun kv => (kV kv.1, kv.2)) ∧ RK K H kvs kds
  | _, _, _, .nil, h => by cases h; exact ⟨[], rfl, .nil⟩
  | _, _, _, .cons (k := k) (v := v) (ds := ds) rx ry t, h => by
    have h : ((keyD k).bind fun k => (Z.alts ds).map ((k, v) :: ·)) = some _ := h
    cases e : keyD k with
    | none => rw [e] at h; cases h
    | some kk =>
      rw [e] at h
      have h : (Z.alts ds).map ((kk, v) :: ·) = some _ := h
      cases e2 : Z.alts ds with
      | none => rw [e2] at h; cases h
      | some kds0 =>
        rw [e2] at h
        cases h
        obtain ⟨kvs, e3, e4⟩ := t.alts e2
        subst e3
        have ex := rep_key rx e
        subst ex
        exact ⟨(kk, _) :: kvs, rfl, .cons ry e4⟩
theorem R2s.mono {K : PySem.W.Frag} {H H' : Hp} (s : Same H H') : ∀ {ps : List (V × V)} {ds : List D}, R2s K H ps ds → R2s K H' ps ds
  | _, _, .nil => .nil
  | _, _, .cons h q r => .cons (h.mono s) (q.mono s) (r.mono s)
def PoR (K : PySem.W.Frag) (W : Wi) (G : Gh) (σ : L2.St) (H0 : Hp) (r : RA) (Q : List (V × V) → Hp → Prop) : Prop :=
  match r with
  | .ok ds δ => ∀ ps H0' H', Rl K G δ σ H0' H' → Same H0 H0' → R2s K H0' ps ds → Q ps H'
  | .rz c δ => ∀ cls dd H0' H', Rl K G δ σ H0' H' → Same H0 H0' → ExIs K W.ct c cls dd H' → W.w cls dd σ H'
  | .bad => False
theorem prs_read {G : Gh} {σ : L2.St} : ∀ (fs : List (Den × Den)) {δ : En} {H0 H : Hp} {Q : List (V × V) → Hp → Prop}, Rl X.K G δ σ H0 H → PoR X.K W G σ H0 (dPrs fs δ) Q → tPairs (fs.map fun f => (tM X.K W f.1, tM X.K W f.2)) σ H Q
  | [], δ, H0, H, Q, R, h => h [] H0 H R (Same.refl _) .nil
  | (fk, fv) :: r, δ, H0, H, Q, R, h => by
    refine ⟨G, δ, H0, R, ?_⟩
    show PoE X.K W G σ H0 (fk δ) _
    unfold dPrs at h
    cases e : fk δ with
    | bad => rw [e] at h; exact h
    | rz c δ1 => rw [e] at h; exact h
    | ok k δ1 =>
      rw [e] at h
      intro x H1 H' R1 s1 r1
      refine ⟨G, δ1, H1, R1, ?_⟩
      show PoE X.K W G σ H1 (fv δ1) _
      have h : PoR X.K W G σ H0 (consA (fv δ1) fun v δ2 => bindAA (dPrs r δ2) fun ds δ3 => .ok (k :: v :: ds) δ3) Q := h
      cases e2 : fv δ1 with
      | bad => rw [e2] at h; exact h
      | rz c δ2 => rw [e2] at h; exact fun cls dd H2 H'' R2 s2 x => h cls dd H2 H'' R2 (s1.trans s2) x
      | ok v δ2 =>
        rw [e2] at h
        intro y H2 H'' R2 s2 r2
        have h : PoR X.K W G σ H0 (bindAA (dPrs r δ2) fun ds δ3 => .ok (k :: v :: ds) δ3) Q := h
        refine prs_read r R2 ?_
        cases e3 : dPrs r δ2 with
        | bad => rw [e3] at h; exact h
        | rz c δ3 => rw [e3] at h; exact fun cls dd H3 H3' R3 s3 x => h cls dd H3 H3' R3 ((s1.trans s2).trans s3) x
        | ok ds δ3 =>
          rw [e3] at h
          exact fun ps H3 H3' R3 s3 r3 => h ((x, y) :: ps) H3 H3' R3 ((s1.trans s2).trans s3) (.cons ((r1.mono s2).mono s3) (r2.mono s3) r3)
def dspK (ds : List D) (δ : En) : RF :=
  match alts ds with
  | some kds => .ok (dicO kds) δ
  | none => .bad
def fDsp (fs : List (Den × Den)) : FDen := fun δ => bindAF (dPrs fs δ) dspK
theorem mf_dsp {keys : List (Option Expr)} {values : List Expr} {fs : List (Den × Den)} (h : PPs X pos keys values (fs.map fun f => (tM X.K W f.1, tM X.K W f.2))) (hall : keys.all (·.isSome) = true) (hl : keys.length = values.length) (h0 : keys ≠ []) (h15 : keys.length ≤ 15) (hl2 : keys.length = fs.length) :
    PE X (.Dict keys values pos) (tF X.K W (fDsp fs)) :=
  PE_imp (pe_disp h hall hl h0 h15) fun σ H Q ⟨G, δ, H0, R, h⟩ p hp => by
    have R1 := (R.grow (Gr.lay (o := .dK []) R.hs hp)).hide upd_same (R.hs.free hp) (R.own_ne hp)
    have ne : G.He p = none := R.he_none hp
    have nf : G.Hf p = none := R.hf.free (R.hs.free hp)
    refine prs_read fs R1 ?_
    unfold fDsp at h
    cases e : dPrs fs δ with
    | bad => rw [e] at h; exact h
    | rz c δ1 => rw [e] at h; exact fun cls dd H1 H' R2 s2 x => h cls dd H1 H' (R2.unhide ne nf).1 s2 x
    | ok ds δ1 =>
      rw [e] at h
      have h : PoF X.K W G σ H0 (dspK ds δ1) Q := h
      intro ps H1 H' R2 s2 r2
      obtain ⟨R3, hu, n0, nw⟩ := R2.unhide ne nf
      refine ⟨hu, ?_⟩
      unfold dspK at h
      cases e2 : alts ds with
      | none => rw [e2] at h; exact h.elim
      | some kds =>
        rw [e2] at h
        obtain ⟨kvs, rfl, rk⟩ := r2.alts e2
        refine ⟨kvs, rfl, ?_, h p H1 _ (R3.poke n0 ne nw) s2 n0 ne (dicO_own rk upd_same) nw⟩
        have l1 : ∀ {fs : List (Den × Den)} {δ δ1 : En} {ds : List D}, dPrs fs δ = .ok ds δ1 → ds.length = 2 * fs.length := by
          intro fs
          induction fs with
          | nil => intro δ δ1 ds h; cases h; rfl
          | cons f fs ih =>
            intro δ δ1 ds h
            obtain ⟨fk, fv⟩ := f
            unfold dPrs at h
            cases e1 : fk δ with
            | bad => rw [e1] at h; cases h
            | rz c δ2 => rw [e1] at h; cases h
            | ok k δ2 =>
              rw [e1] at h
              have h : (consA (fv δ2) fun v δ2 => bindAA (dPrs fs δ2) fun ds δ3 => RA.ok (k :: v :: ds) δ3) = .ok ds δ1 := h
              cases e2 : fv δ2 with
              | bad => rw [e2] at h; cases h
              | rz c δ3 => rw [e2] at h; cases h
              | ok v δ3 =>
                rw [e2] at h
                have h : (bindAA (dPrs fs δ3) fun ds δ3 => RA.ok (k :: v :: ds) δ3) = .ok ds δ1 := h
                cases e3 : dPrs fs δ3 with
                | bad => rw [e3] at h; cases h
                | rz c δ4 => rw [e3] at h; cases h
                | ok ds4 δ4 =>
                  rw [e3] at h
                  cases h
                  have := ih e3
                  simp only [List.length_cons]
                  omega
        have l2 : ∀ {ps : List (V × V)} {ds : List D}, R2s X.K H1 ps ds → ds.length = 2 * ps.length := by
          intro ps ds r
          induction r with
          | nil => rfl
          | cons _ _ _ ih => simp only [List.length_cons]; omega
        have a := l1 e
        have b := l2 r2
        rw [List.length_map] at b
        omega
/-! ### name.insert(i, e) -/
def insK (i : Nat) (k d : D) (s : Option O) (δ : En) : RS :=
  match k, s with
  | .int k, some (.lst ds) => if ds.length < 1000000 ∧ 0 ≤ k ∧ k < 9223372036854775808 then .nx (setOwn δ i (.lst (ds.take k.toNat ++ [d] ++ ds.drop k.toNat))) else .bad
  | _, _ => .bad
def sIns (i : Nat) (fi f : Den) : SDen := fun δ => match ownAt δ i with
  | some (.lst _) => bindES (fi δ) fun k δ1 => bindES (f δ1) fun d δ2 => insK i k d (ownAt δ2 i) δ2
  | _ => .bad
theorem ms_ins {i : Nat} {x : Str} {ix e : Expr} {fi f : Den} {p apos cpos : Pos} (hx : PE X (.Name x p) (tVar i)) (hi : PE X ix (tM X.K W fi)) (he : PE X e (tM X.K W f))
    (hfew : ((backTo cpos (starEach [ix, e] X.env)).all (fun x => !x.1) && (backToKw cpos (keywordEach [] X.env)).all (fun x => x.1.isSome)
      && decide ([ix, e].length + ([] : List Keyword).length + (if ([] : List Keyword).isEmpty then 0 else 1) < 30)) = true)
    (hline : (apos.endLine == cpos.line) = true) (hs : starEach [ix, e] X.env = (false, eval ix X.env) :: starEach [e] X.env) (hs2 : starEach [e] X.env = [(false, eval e X.env)]) : PS X (.Expr (.Call (.Attribute (.Name x p) "insert" apos) [ix, e] [] cpos) pos) (sM X.K W (sIns i fi f)) :=
  PS_imp (ps_expr (pe_bm PySem.F.plainAttrs_list PySem.F.slot_list_insert PySem.F.type_list_insert mt_insert hx (pa_cons hi (pa_cons he pa_nil hs2) hs) rfl hfew hline hs (by rw [hs2]; rfl)) rfl) fun D σ H ⟨G, δ, H0, R, q⟩ => by
    unfold sIns at q
    split at q
    · rename_i ds0 e0
      obtain ⟨a, hσ, n0, ne, vs, hv, rs⟩ := R.owned e0
      refine ⟨.ref a, hσ, .inl ⟨rfl, vs, .inl (.inl hv)⟩, G, δ, H0, R, PoS.bindE q fun k δ1 v H1 H' R1 r1 h1 => ⟨G, δ1, H1, R1, ?_⟩⟩
      cases ef : f δ1 with
      | bad => rw [ef] at h1; exact h1.elim
      | rz c δ2 => rw [ef] at h1; exact fun cls dd H2 H'' R2 s x => h1 cls dd σ H2 H'' R2 s x
      | ok d δ2 =>
        rw [ef] at h1
        intro w H2 H'' R2 s2 r2
        have h1 : PoS X.K W G H1 (insK i k d (ownAt δ2 i) δ2) D := h1
        generalize eo : ownAt δ2 i = oo at h1
        unfold insK at h1
        · split at h1
          · rename_i k' ds eo2
            split at h1
            · rename_i c
              obtain ⟨a1, hσ1, n1, ne1, ws, hw, rs1⟩ := R2.owned eo
              rw [hσ] at hσ1
              cases hσ1
              cases r1
              exact ⟨a, ws, k', w, rfl, rfl, hw, by rw [rs1.length]; exact Nat.lt_of_lt_of_le c.1 (by decide), c.2.1, c.2.2, h1 σ H2 _ (R2.wrote eo hσ n1 ne1 ⟨_, upd_same, ((rs1.take k'.toNat).append (.cons r2 .nil)).append (rs1.drop k'.toNat)⟩) s2⟩
            · exact h1.elim
          · exact h1.elim
    · exact q.elim
/-! ### name[ix] += e -/
theorem get_list : PGet X (rIxL X.K) := by
  intro pins s σ H x y v u Q I rx ry h
  obtain ⟨p, xs, i, z, rfl, rfl, hq, he, q⟩ := h
  cases rx
  obtain ⟨t, rfl⟩ := ry
  obtain ⟨its, r, pl, hz⟩ := I.list hq
  obtain ⟨j, h1, h2, h3, h4, h5⟩ := atI_get he
  obtain ⟨w, ew, rw'⟩ := r.get h2
  have hl := r.length
  have hn := line63
  have fin : EP X pins σ Q w s := ⟨z, H, I, rw', q⟩
  by_cases h0 : 0 ≤ i
  · have hj : i.toNat = j := by
      rw [seqIndex_of h0 h5] at h1
      exact Option.some.inj h1
    exact wpAny_getItem_list pl.isList h0 (by omega) (by rw [hj]; simpa using ew) fin
  · have hj : (i + (its.toArray.size : Int)).toNat = j := by
      rw [seqIndex_neg (by omega) h4] at h1
      rw [List.size_toArray, ← hl]
      exact Option.some.inj h1
    exact wpAny_getItem_list_neg pl.isList (by omega) (by rw [List.size_toArray] <;> omega) (by omega) (by rw [hj]; simpa using ew) fin
def augIK2 (i : Nat) (k : D) (z : Option D) (δ2 : En) : RS := match z with
  | some z => subK i z k δ2
  | none => .bad
def augIK (o : Bool) (i : Nat) (f : Den) (k : D) (s : Option O) (δ1 : En) : RS :=
  match k, s with
  | .int k, some (.lst ds) => (match atI ds k with
    | some x => bindES (f δ1) fun d δ2 => augIK2 i (.int k) (augD o x d) δ2
    | none => .bad)
  | _, _ => .bad
def sAugI (o : Bool) (i : Nat) (fi f : Den) : SDen := fun δ => match ownAt δ i with
  | some (.lst _) => bindES (fi δ) fun k δ1 => augIK o i f k (ownAt δ1 i) δ1
  | _ => .bad
theorem ms_augI {i : Nat} {x : Str} {ix e : Expr} {fi f : Den} {p spos : Pos} (o : Bool) (hx : PE X (.Name x p) (tVar i)) (hi : PE X ix (tM X.K W fi)) (he : PE X e (tM X.K W f))
    (ha : ∀ ov iv new, augStore ix ov iv new = (do holding [new, ov, iv] (setItem ov iv new); release [new, ov, iv] []; pure .next)) :
    PS X (.AugAssign (.Subscript (.Name x p) ix spos) (augOp o) e pos) (sM X.K W (sAugI o i fi f)) := by
  have ip : PIp X (augOp o) (ipI fun i j => if o then i + j else i - j) := by
    cases o with
    | true => exact ip_add
    | false => exact ip_sub
  refine PS_imp (ps_augS hx hi get_list he ip set_list ha) fun D σ H ⟨G, δ, H0, R, q⟩ => ?_
  unfold sAugI at q
  split at q
  · rename_i ds0 e0
    obtain ⟨a, hσ, n0, ne, vs, hv, rs⟩ := R.owned e0
    refine ⟨.ref a, hσ, G, δ, H0, R, PoS.bindE q fun k δ1 v H1 H' R1 r1 h1 => ?_⟩
    unfold augIK at h1
    split at h1
    · rename_i _ _ k' ds e1
      obtain ⟨a1, hσ1, n1, ne1, ws, hw, rs1⟩ := R1.owned e1
      rw [hσ] at hσ1
      cases hσ1
      cases r1
      split at h1
      · rename_i x0 ex
        obtain ⟨w0, hw0, rw0⟩ := reps_at rs1 ex
        refine ⟨a, ws, k', w0, rfl, rfl, .inl (.inl hw), hw0, G, δ1, H1, R1, ?_⟩
        cases ef : f δ1 with
        | bad => rw [ef] at h1; exact h1.elim
        | rz c δ2 => rw [ef] at h1; exact fun cls dd H2 H'' R2 s x => h1 cls dd σ H2 H'' R2 s x
        | ok d δ2 =>
          rw [ef] at h1
          have h1 : PoS X.K W G H1 (augIK2 i (.int k') (augD o x0 d) δ2) D := h1
          intro w H2 H'' R2 s2 r2
          cases ea : augD o x0 d with
          | none => rw [ea] at h1; exact h1.elim
          | some z =>
            rw [ea] at h1
            unfold augD at ea
            split at ea
            · rename_i m n
              cases ea
              cases rw0
              cases r2
              refine ⟨m, n, rfl, rfl, ?_⟩
              have h1 : PoS X.K W G H1 (subK i (.int (if o then m + n else m - n)) (.int k') δ2) D := h1
              unfold subK at h1
              split at h1
              · rename_i _ _ k2 ds2 ek e2
                cases ek
                obtain ⟨a2, hσ2, n2, ne2, ws2, hw2, rs2⟩ := R2.owned e2
                rw [hσ] at hσ2
                cases hσ2
                split at h1
                · rename_i j ej
                  exact ⟨a, ws2, k', j, rfl, rfl, hw2, by rw [rs2.length]; exact ej, h1 σ H2 _ (R2.wrote e2 hσ n2 ne2 ⟨_, upd_same, rs2.set (.int _) j⟩) s2⟩
                · exact h1.elim
              · exact h1.elim
            · cases ea
      · exact h1.elim
    · exact h1.elim
  · exact q.elim
/-- a, b, c = e, f, g with three plain names -/
def st3 (i j l : Nat) (a b c : D) (δ : En) : Option En := (stD i a δ).bind fun δ => (stD j b δ).bind fun δ => stD l c δ
def par3K (i j l : Nat) : RA → RS
  | .ok [a, b, c] δ => (match st3 i j l a b c δ with
    | some δ => .nx δ
    | none => .bad)
  | .rz c δ => .rz c δ
  | _ => .bad
def sPar3 (i j l : Nat) (fs : List Den) : SDen := fun δ => par3K i j l (dArgs fs δ)
theorem ms_par3 {st : Stmt} {i j l : Nat} {fs : List Den} (h : PS X st (tPar3 i j l (tA X.K W (dArgs fs)))) : PS X st (sM X.K W (sPar3 i j l fs)) :=
  PS_imp h fun D σ H ⟨G, δ, H0, R, q⟩ => ⟨G, δ, H0, R, by
    unfold sPar3 at q
    cases e : dArgs fs δ with
    | bad => rw [e] at q; exact q
    | rz c δ1 => rw [e] at q; exact fun cls dd H1 H' R1 s x => q cls dd σ H1 H' R1 s x
    | ok ds δ1 =>
      rw [e] at q
      intro vs H1 H' R1 s1 r1
      match ds, r1, q with
      | [d1, d2, d3], .cons ra (.cons rb (.cons rc .nil)), q =>
        have q : PoS X.K W G H0 (match st3 i j l d1 d2 d3 δ1 with
          | some δ => .nx δ
          | none => .bad) D := q
        unfold st3 at q
        cases e1 : stD i d1 δ1 with
        | none => rw [e1] at q; exact q.elim
        | some δ2 =>
          rw [e1] at q
          dsimp only [Option.bind] at q
          cases e2 : stD j d2 δ2 with
          | none => rw [e2] at q; exact q.elim
          | some δ3 =>
            rw [e2] at q
            dsimp only [Option.bind] at q
            cases e3 : stD l d3 δ3 with
            | none => rw [e3] at q; exact q.elim
            | some δ4 =>
              rw [e3] at q
              obtain ⟨rfl, np⟩ := stD_some e1
              obtain ⟨rfl, np2⟩ := stD_some e2
              obtain ⟨rfl, np3⟩ := stD_some e3
              exact ⟨_, _, _, rfl, q _ H1 H' (((R1.set_va ra np).set_va rb np2).set_va rc np3) s1⟩
      | [], r1, q => exact q.elim
      | [_], r1, q => exact q.elim
      | [_, _], r1, q => exact q.elim
      | _ :: _ :: _ :: _ :: _, r1, q => exact q.elim⟩
/-- a comparison with what a name holds, as it stands -/
def blK (o : Option D) (δ : En) : RE :=
  match o with
  | some (.bl b) => .ok (.bl b) δ
  | _ => .bad
def bKQ (g : D → D → Option D) (x : D) (o : Option D) (δ : En) : RE :=
  match o with
  | some d => blK (g x d) δ
  | none => .bad
def kCmpR (g : D → D → Option D) (i : Nat) : D → En → RE := fun x δ => bKQ g x (peek δ i) δ
def dCmpR (g : D → D → Option D) (i : Nat) (fa : Den) : Den := fun δ => bindE (fa δ) (kCmpR g i)
theorem cmpR_read {g : D → D → Option D} {i : Nat} {fa : Den} {σ : L2.St} {H : Hp} {Q : VK} (q : tM X.K W (dCmpR g i fa) σ H Q) : tM X.K W fa σ H fun v H1 => tVar i σ H1 fun w H2 => rM X.K g v w H2 Q := by
  obtain ⟨G, δ, H0, R, q⟩ := q
  refine ⟨G, δ, H0, R, PoE.bind q fun x δ1 v H1 H' R1 s1 r1 h1 => ?_⟩
  have h1 : PoE X.K W G σ H1 (bKQ g x (peek δ1 i) δ1) Q := h1
  cases e : peek δ1 i with
  | none => rw [e] at h1; exact h1.elim
  | some d =>
    rw [e] at h1
    have h1 : PoE X.K W G σ H1 (blK (g x d) δ1) Q := h1
    obtain ⟨w, h2, rv⟩ := R1.peek e
    refine ⟨w, h2, ?_⟩
    cases hz : g x d with
    | none => rw [hz] at h1; exact h1.elim
    | some z =>
      rw [hz] at h1
      cases z with
      | bl b =>
        refine ⟨H', x, d, .bl b, Same.refl _, r1.mono R1.hs, rv, hz, fun u H3 H'' gr r => ?_⟩
        cases r
        have h1 : PoE X.K W G σ H1 (.ok (.bl b) δ1) Q := h1
        exact h1.val (scal_grow R1 gr) (.bl b)
      | _ => exact h1.elim
theorem me_cmpR {op : CmpOp} {g : D → D → Option D} {i : Nat} {x : Str} {p : Pos} {a : Expr} {fa : Den} (ho : OpR X (compareOp op) (rM X.K g)) (ha : PE X a (tM X.K W fa)) (hx : PE X (.Name x p) (tVar i)) (hm : behindInMarks op (.Name x p) = false) : PE X (.Compare a [op] [.Name x p] pos) (tM X.K W (dCmpR g i fa)) :=
  PE_imp (pe_cmpR ho ha hx hm) fun σ H Q q => cmpR_read q
theorem mt_cmpR {op : CmpOp} {g : D → D → Option D} {i : Nat} {x : Str} {p : Pos} {a : Expr} {fa : Den} (ho : OpR X (compareOp op) (rM X.K g)) (ha : PE X a (tM X.K W fa)) (hx : PE X (.Name x p) (tVar i)) (hm : behindInMarks op (.Name x p) = false) : PT X (.Compare a [op] [.Name x p] pos) (tT X.K W (dCmpR g i fa)) :=
  PT_imp (pt_cmpR ho ha hx hm) fun σ H Q ⟨G, δ, H0, R, q⟩ => cmpR_read ⟨G, δ, H0, R, q.toE⟩
end
end Z

namespace Z
open PySem PySem.Spec PyProof.Rows L2
/-! ### a def's text, once more, by slots -/
inductive Ty where
  | int | bool | tup | lst | str | dic
def Ty.s : Ty → String
  | .int => "int"
  | .bool => "bool"
  | .tup => "tuple"
  | .lst => "list"
  | .str => "str"
  | .dic => "dict"
def Ty.n (t : Ty) : Str := Str.ofString t.s
theorem Ty.boot (t : Ty) : bootBuiltins t.n = some (.type t.s) := by cases t <;> decide +kernel
theorem Ty.nn (t : Ty) : t.n ≠ "__name__" := by cases t <;> decide +kernel
theorem Ty.nd (t : Ty) : (t.n == ("__debug__" : Str)) = false := by cases t <;> decide +kernel
mutual
inductive E where
  | var (i : Nat) | int (i : Int) | str (s : Str) | bl (b : Bool) | non | glo (k : Nat)
  | bin (o : BOp) (a b : E) | neg (a : E) | not (a : E) | cmp (o : COp) (a b : E) | isc (neg : Bool) (a b : E)
  | and (es : Es) | or (es : Es) | ite (c a b : E) | tup (es : Es) | fr (f : F)
  | bi (b : Bi) (es : Es) | isi (ty : Ty) (a : E) | isi2 (t1 t2 : Ty) (a : E) | call (k : Nat) (es : Es)
  | idx (a b : E) | cut (a : E) (lo hi : Op) | stp (a : E) (lo hi : Op) (st : E) | ixO (i : Nat) (b : E) | lenO (i : Nat) | cmpB (o : COp) (i : Nat) (b : E)
  | callP (k i : Nat) (ps : Ps) | callB (k q i : Nat) (ps : Ps) | bad | isE (d : Nat) (a : E) | call0 (k : Nat) | dic0 | ind (i : Nat) (b : E)
  | callN (k : Nat) (f : F) | dst (a : E) | chn (o o' : COp) (a b c : E) | bitl (a : E) | cmpR (o : COp) (a : E) (i : Nat)
inductive Op where
  | no | so (e : E)
inductive Es where
  | nil | cons (e : E) (es : Es)
inductive Ps where
  | nil | own (ps : Ps) | cons (e : E) (ps : Ps)
inductive F where
  | add (a b : E) | list (a : E) | rep (f : F) (n : Int) | call (k : Nat) (es : Es) | callP (k i : Nat) (ps : Ps) | lst (es : Es) | cut (a : E) (lo hi : Op) | stp (a : E) (lo hi : Op) (st : E) | comp (elt : E) (vs : List Nat) (tg : Tg) (it : I) (t : Op)
  | callN (k : Nat) (f : F) | dct (a : E) | dsp (ks vs : Es)
inductive I where
  | seq (e : E) | rng1 (a : E) | rng2 (a b : E) | zip (a b : E) | enum (a : E) | rng3 (a b c : E) | own (i : Nat)
end
/-- a name whose list stays one's own -/
def I.ow : I → Option Nat
  | .own i => some i
  | _ => none
/-- a def that may be called: its name, how many parameters, what it gives -/
structure Fd where
  name : Str
  ar : Nat
  pin : Option Nat
  sem : List D → RD
/-- hfns: what may be called while an exception is handled; rs: the classes that are raised; qs: those that are asked for -/
structure Tab where
  fns : List Fd
  cons : List (Str × D)
  bis : List Str
  hfns : List Fd
  rs : List Nat
  qs : List Nat
/-- is the one class under the other? -/
def subE (c d : Nat) : Bool := c == d || d == 0 || d == 15
def isED (rs : List Nat) (d : Nat) : D → Option D
  | .exc c => if rs.contains c then some (.bl (subE c d)) else none
  | _ => none
/-! ### its meaning -/
def isD (neg : Bool) : D → D → Option D
  | .bl a, .bl b => some (.bl (if neg then !decide (a = b) else decide (a = b)))
  | .non, .non => some (.bl (!neg))
  | _, .non => some (.bl neg)
  | _, _ => none
mutual
def E.den (T : Tab) : E → Den
  | .var i => dVar i
  | .int i => dCst (.int i)
  | .str s => dCst (.str s)
  | .bl b => dCst (.bl b)
  | .non => dCst .non
  | .glo k => match T.cons[k]? with
    | some p => dCst p.2
    | none => fun _ => .bad
  | .bin o a b => dBin o.fn (a.den T) (b.den T)
  | .neg a => dUn negD (a.den T)
  | .not a => dUn notD (a.den T)
  | .cmp o a b => dBin o.fn (a.den T) (b.den T)
  | .isc n a b => dBin (isD n) (a.den T) (b.den T)
  | .and es => dAnds (es.den T)
  | .or es => dOrs (es.den T)
  | .ite c a b => dIte (c.den T) (a.den T) (b.den T)
  | .tup es => dTup (es.den T)
  | .fr f => dFr (f.den T)
  | .bi b es => dBi b.fn (es.den T)
  | .isi ty a => dUn (isiD ty.s) (a.den T)
  | .isi2 t1 t2 a => dUn (isi2D t1.s t2.s) (a.den T)
  | .call k es => match T.fns[k]? with
    | some p => dCall p.sem (es.den T)
    | none => fun _ => .bad
  | .idx a b => dBin idxD (a.den T) (b.den T)
  | .cut a lo hi => dCut (a.den T) (lo.den T) (hi.den T)
  | .stp a lo hi st => dStp (a.den T) (lo.den T) (hi.den T) (some (st.den T))
  | .ixO i b => dIxO i (b.den T)
  | .lenO i => dLenO i
  | .cmpB o i b => dCmpB o.fn i (b.den T)
  | .callP k i ps => match T.fns[k]? with
    | some p => dCallP p.sem (p.pin.getD 0) i (ps.den T)
    | none => fun _ => .bad
  | .callB k q i ps => match T.fns[k]? with
    | some p => dCallB p.sem q i (ps.den T)
    | none => fun _ => .bad
  | .bad => dBad
  | .isE d a => dUn (isED T.rs d) (a.den T)
  | .call0 k => match T.fns[k]? with
    | some p => dCall p.sem []
    | none => fun _ => .bad
  | .dic0 => fun δ => .ok (.dic [] []) δ
  | .ind i b => dInd i (b.den T)
  | .callN k f => match T.fns[k]? with
    | some p => dCallN p.sem (f.den T)
    | none => fun _ => .bad
  | .dst a => dUn dstD (a.den T)
  | .chn o o' a b c => dChn o.fn o'.fn (a.den T) (b.den T) (c.den T)
  | .bitl a => dUn bitD (a.den T)
  | .cmpR o a i => dCmpR o.fn i (a.den T)
def Op.den (T : Tab) : Op → Option Den
  | .no => none
  | .so e => some (e.den T)
def Es.den (T : Tab) : Es → List Den
  | .nil => []
  | .cons e es => e.den T :: es.den T
def Ps.den (T : Tab) : Ps → List (Option Den)
  | .nil => []
  | .own ps => none :: ps.den T
  | .cons e ps => some (e.den T) :: ps.den T
def F.den (T : Tab) : F → FDen
  | .add a b => fAdd (a.den T) (b.den T)
  | .list a => fList (a.den T)
  | .rep f n => fRep (f.den T) n
  | .call k es => match T.fns[k]? with
    | some p => fCall p.sem (es.den T)
    | none => fun _ => .bad
  | .callP k i ps => match T.fns[k]? with
    | some p => fCallP p.sem (p.pin.getD 0) i (ps.den T)
    | none => fun _ => .bad
  | .lst es => fLst (es.den T)
  | .callN k f => match T.fns[k]? with
    | some p => fCallN p.sem (f.den T)
    | none => fun _ => .bad
  | .dct a => fDct (a.den T)
  | .dsp ks vs => fDsp ((ks.den T).zip (vs.den T))
  | .cut a lo hi => fCut (a.den T) (lo.den T) (hi.den T)
  | .stp a lo hi st => fStp (a.den T) (lo.den T) (hi.den T) (some (st.den T))
  | .comp elt vs tg it t => fCompI it.ow (it.den T) tg.st (t.den T) (elt.den T) vs
def I.den (T : Tab) : I → En → RI
  | .seq e => iSeq (e.den T)
  | .rng1 a => iRng [a.den T]
  | .rng2 a b => iRng [a.den T, b.den T]
  | .rng3 a b c => iLs rng3L [a.den T, b.den T, c.den T]
  | .zip a b => iLs zipL [a.den T, b.den T]
  | .enum a => iLs enuL [a.den T]
  | .own i => iSeq (dVar i)
end
/-! ### a look: the text is the one that the form tells -/
/-- mode: 0 nothing is handled; 1 a def's body while an exception is handled; 2 an except suite -/
structure SC where
  N : List Str
  names : List (Str × NameKind)
  mode : Nat

def notStar : Expr → Bool
  | .Starred .. => false
  | _ => true
def notSlice : Expr → Bool
  | .Slice .. => false
  | _ => true
def notSet : Expr → Bool
  | .Set .. => false
  | _ => true
def notComp : Expr → Bool
  | .ListComp .. => false
  | .SetComp .. => false
  | .DictComp .. => false
  | _ => true
/-- as a test it is no form of its own -/
def plainT : Expr → Bool
  | .UnaryOp .Not _ _ => false
  | .BoolOp .. => false
  | .IfExp .. => false
  | .Compare .. => false
  | _ => true
def plainE (x : Expr) : Bool := notStar x && notSlice x && notSet x
theorem starEach_of {x : Expr} (h : notStar x = true) (xs : List Expr) (env : Env) : starEach (x :: xs) env = (false, eval x env) :: starEach xs env := by
  cases x <;> first | rfl | cases h
theorem plainIx_of {x : Expr} (h : notSlice x = true) : PlainIx x := fun o i => by
  cases x <;> first | rfl | cases h
theorem behind_of {x : Expr} (h : notSet x = true) (op : CmpOp) : behindInMarks op x = false := by
  cases x <;> first | rfl | cases h
theorem folded_of {x : Expr} (h : notSet x = true) (env : Env) (v : Value) : foldedSetIterable x env v = pure v := by
  cases x <;> first | rfl | cases h
theorem swaps_of {x : Expr} (h : notComp x = true) (t : Option Expr) (l : Nat) (env : Env) : swapsWith x t l env = pure false := by
  cases x <;> first | rfl | cases h
theorem isTrue_of {x : Expr} (h : plainT x = true) (env : Env) (whole : Sem Value) : isTrue x env whole = (do let v ← whole; standAt x.pos; holding [v] (truthy v)) := by
  cases x <;> first | rfl | cases h | (rename_i op _ _; cases op <;> first | rfl | cases h)
def SC.vis (S : SC) (x : Str) : Bool := decide (S.names.lookup x = some .local) || decide (S.names.lookup x = some .cell) || decide (S.names.lookup x = some .free)
def SC.loc (S : SC) (x : Str) : Bool := decide (S.names.lookup x = some .local) || decide (S.names.lookup x = some .cell)
def SC.gl (S : SC) (x : Str) : Bool := decide (S.names.lookup x = some .globalImplicit)
def SC.at (S : SC) (i : Nat) (x : Str) : Bool := decide (S.N[i]? = some x) && S.vis x && !(x == ("__debug__" : Str)) && !(x == ("__classdict__" : Str))
def Tab.gb (T : Tab) (S : SC) (x : Str) : Bool := S.gl x && decide (x ∈ T.bis) && !(x == ("__debug__" : Str))
/-- the names within a comprehension's block -/
def SC.inner (S : SC) (scope : Scope) : SC :=
  { S with mode := if S.mode == 1 then 2 else S.mode, names := scope.names.map fun (n, k) => if (k == .free && S.names.lookup n == some .cell) then (n, .cell) else (n, k) }
def ownOf (S : SC) (vs : List Nat) : List (Str × Nat) := vs.map fun v => (S.N.getD v "", v)
def blkS (S : SC) (scope : Scope) (own : List (Str × Nat)) : Bool :=
  (match scope.kind with | .function => true | _ => false) && (scope.names.all fun y => decide (scope.names.lookup y.1 = some y.2)) && (own.all fun p => decide (S.N[p.2]? = some p.1)) &&
    (scope.names.all fun y => match y.2 with
      | .free => (match S.names.lookup y.1 with | some .cell => true | some .free => true | _ => false)
      | .local => decide (y.1 ∈ own.map (·.1)) || decide (y.1 ∉ S.N)
      | .cell => decide (y.1 ∈ own.map (·.1)) || decide (y.1 ∉ S.N)
      | _ => true)
/-- a name that is stored -/
def SC.st (S : SC) (i : Nat) (x : Str) : Bool := decide (S.N[i]? = some x) && S.loc x
/-- .. in a block: its own -/
def tgN (ok : Nat → Str → Bool) : List Nat → List Expr → Bool
  | [], [] => true
  | i :: is, .Name x _ :: xs => ok i x && tgN ok is xs
  | _, _ => false
def tgNs (ok : Nat → Str → Bool) : List (List Nat) → List Expr → Bool
  | [], [] => true
  | is :: iss, .Tuple ys _ _ :: xs => tgN ok is ys && tgNs ok iss xs
  | _, _ => false
def Tg.ck (ok : Nat → Str → Bool) : Tg → Expr → Bool
  | .var i, .Name x _ => ok i x
  | .tup is, .Tuple xs _ _ => tgN ok is xs
  | .nst iss, .Tuple xs _ _ => tgNs ok iss xs
  | _, _ => false
def Tg.isVar : Tg → Bool
  | .var _ => true
  | _ => false
def isTup : Expr → Bool
  | .Tuple .. => true
  | _ => false
/-- what the target must be -/
def I.tgk : I → Expr → Bool
  | .zip _ _, t => isTup t
  | .enum _, t => isTup t
  | _, _ => true
/-- where an exception is handled, a def's body may go over range alone -/
def I.md : I → Nat → Bool
  | _, 0 => true
  | .rng1 _, 1 => true
  | _, _ => false
/-- the one place left open -/
def Ps.opn : Ps → Nat → Bool
  | .own ps, 0 => Ps.opn.shut ps
  | .cons _ ps, n + 1 => ps.opn n
  | _, _ => false
where shut : Ps → Bool
  | .nil => true
  | .cons _ ps => shut ps
  | .own _ => false
mutual
def E.ck (T : Tab) (S : SC) : E → Expr → Bool
  | .var i, .Name x _ => S.at i x
  | .int i, .Constant (.int j) _ _ => decide (i = j)
  | .str s, .Constant (.str z) _ _ => decide (s = z)
  | .bl b, .Constant (.bool c) _ _ => decide (b = c)
  | .non, .Constant .none _ _ => true
  | .glo k, .Name x _ => S.gl x && !(x == ("__debug__" : Str)) && (match T.cons[k]? with
    | some p => decide (p.1 = x)
    | none => false)
  | .bin o a b, .BinOp x op y _ => decide (op = o.op) && a.ck T S x && b.ck T S y
  | .neg a, .UnaryOp .USub x _ => a.ck T S x
  | .not a, .UnaryOp .Not x _ => a.ck T S x
  | .cmp o a b, .Compare x [op] [y] _ => decide (op = o.op) && a.ck T S x && b.ck T S y && notSet y
  | .isc n a b, .Compare x [op] [y] _ => decide (op = if n then .IsNot else .Is) && a.ck T S x && b.ck T S y && notSet y
  | .and es, .BoolOp .And xs _ => es.ck T S xs && !xs.isEmpty
  | .or es, .BoolOp .Or xs _ => es.ck T S xs && !xs.isEmpty
  | .ite c a b, .IfExp x y z _ => c.ck T S x && a.ck T S y && b.ck T S z
  | .tup es, .Tuple xs _ _ => es.ck T S xs
  | .fr f, x => f.ck T S x
  | .bi b es, .Call (.Name x _) (y :: ys) [] _ => S.mode == 0 && decide (x = b.name) && T.gb S x && es.ck T S (y :: ys)
  | .isi2 t1 t2 a, .Call (.Name x _) [y, .Tuple [.Name z1 _, .Name z2 _] _ _] [] _ => decide (x = "isinstance") && T.gb S x && decide (z1 = t1.n) && T.gb S z1 && decide (z2 = t2.n) && T.gb S z2 && a.ck T S y && notStar y
  | .isi ty a, .Call (.Name x _) [y, .Name z _] [] _ => decide (x = "isinstance") && T.gb S x && decide (z = ty.n) && T.gb S z && a.ck T S y && notStar y
  | .call k es, .Call (.Name x _) (y :: ys) [] _ => S.mode == 0 && S.gl x && !(x == ("__debug__" : Str)) && (match T.fns[k]? with
    | some p => decide (p.name = x) && decide (p.ar = (y :: ys).length) && p.pin.isNone
    | none => false) && es.ck T S (y :: ys)
  | .callP k i ps, .Call (.Name x _) (y :: ys) [] _ => S.mode == 0 && S.gl x && !(x == ("__debug__" : Str)) && (match T.fns[k]? with
    | some p => decide (p.name = x) && decide (p.ar = (y :: ys).length) && p.pin.isSome && ps.opn (p.pin.getD 0)
    | none => false) && ps.ck T S i (y :: ys)
  | .callB k q i ps, .Call (.Name x _) (y :: ys) [] _ => S.mode == 0 && S.gl x && !(x == ("__debug__" : Str)) && (match T.fns[k]? with
    | some p => decide (p.name = x) && decide (p.ar = (y :: ys).length) && p.pin.isNone && ps.opn q
    | none => false) && ps.ck T S i (y :: ys)
  | .bad, x => notComp x
  | .isE d a, .Call (.Name x _) [y, .Name z _] [] _ => decide (x = "isinstance") && T.gb S x && decide (z = exNm d) && (if d == 15 then T.gb S z else S.gl z) && decide (d ∈ T.qs) && a.ck T S y && notStar y
  | .call0 k, .Call (.Name x _) [] [] _ => S.mode == 0 && S.gl x && !(x == ("__debug__" : Str)) && (match T.fns[k]? with
    | some p => decide (p.name = x) && decide (p.ar = 0) && p.pin.isNone
    | none => false)
  | .callN k f, .Call (.Name x _) [y] [] _ => S.mode == 0 && S.gl x && !(x == ("__debug__" : Str)) && (match T.fns[k]? with
    | some p => decide (p.name = x) && decide (p.ar = 1) && decide (p.pin = some 0)
    | none => false) && f.ck T S y && notStar y
  | .dst a, .Call (.Name x _) [.Call (.Name z _) [y] [] _] [] _ => S.mode == 0 && decide (x = "len") && T.gb S x && decide (z = "set") && T.gb S z && a.ck T S y && notStar y
  | .chn o o' a b c, .Compare x [op, op'] [y, z] _ => decide (op = o.op) && decide (op' = o'.op) && a.ck T S x && b.ck T S y && c.ck T S z && notSet z
  | .bitl a, .Call (.Attribute (.Name n q) m ap) [] [] cp => decide (m = "bit_length") && (ap.endLine == cp.line) && a.ck T S (.Name n q)
  | .cmpR o a i, .Compare y [op] [.Name x _] _ => decide (op = o.op) && a.ck T S y && S.at i x
  | .dic0, .Dict [] [] _ => true
  | .ind i b, .Call (.Attribute (.Name x _) m ap) [y] [] cp => S.at i x && decide (m = "index") && (ap.endLine == cp.line) && b.ck T S y && notStar y
  | .idx a b, .Subscript x y _ => a.ck T S x && b.ck T S y && notSlice y
  | .cut a lo hi, .Subscript x (.Slice l h none _) _ => a.ck T S x && lo.ck T S l && hi.ck T S h
  | .stp a lo hi st, .Subscript x (.Slice l h (some s) _) _ => a.ck T S x && lo.ck T S l && hi.ck T S h && st.ck T S s
  | .ixO i b, .Subscript (.Name x _) y _ => S.at i x && b.ck T S y && notSlice y
  | .cmpB o i b, .Compare (.Name x _) [op] [y] _ => decide (op = o.op) && S.at i x && b.ck T S y && notSet y
  | .lenO i, .Call (.Name z _) [.Name x _] [] _ => S.mode == 0 && decide (z = "len") && T.gb S z && S.at i x
  | _, _ => false
def Op.ck (T : Tab) (S : SC) : Op → Option Expr → Bool
  | .no, none => true
  | .so e, some x => e.ck T S x
  | _, _ => false
def Es.ck (T : Tab) (S : SC) : Es → List Expr → Bool
  | .nil, [] => true
  | .cons e es, x :: xs => e.ck T S x && notStar x && es.ck T S xs
  | _, _ => false
def Ps.ck (T : Tab) (S : SC) (i : Nat) : Ps → List Expr → Bool
  | .nil, [] => true
  | .own ps, .Name n _ :: xs => S.at i n && ps.ck T S i xs
  | .cons e ps, x :: xs => e.ck T S x && notStar x && ps.ck T S i xs
  | _, _ => false
def F.ck (T : Tab) (S : SC) : F → Expr → Bool
  | .add a b, .BinOp x .Add y _ => a.ck T S x && b.ck T S y
  | .rep f n, .BinOp x .Mult (.Constant (.int j) _ _) _ => f.ck T S x && decide (n = j)
  | .list a, .Call (.Name x _) [y] [] _ => decide (x = "list") && T.gb S x && a.ck T S y && notStar y
  | .call k es, .Call (.Name x _) (y :: ys) [] _ => S.mode == 0 && S.gl x && !(x == ("__debug__" : Str)) && (match T.fns[k]? with
    | some p => decide (p.name = x) && decide (p.ar = (y :: ys).length) && p.pin.isNone
    | none => false) && es.ck T S (y :: ys)
  | .callP k i ps, .Call (.Name x _) (y :: ys) [] _ => S.mode == 0 && S.gl x && !(x == ("__debug__" : Str)) && (match T.fns[k]? with
    | some p => decide (p.name = x) && decide (p.ar = (y :: ys).length) && p.pin.isSome && ps.opn (p.pin.getD 0)
    | none => false) && ps.ck T S i (y :: ys)
  | .callN k f, .Call (.Name x _) [y] [] _ => S.mode == 0 && S.gl x && !(x == ("__debug__" : Str)) && (match T.fns[k]? with
    | some p => decide (p.name = x) && decide (p.ar = 1) && decide (p.pin = some 0)
    | none => false) && f.ck T S y && notStar y
  | .dct a, .Call (.Name x _) [y] [] _ => S.mode == 0 && decide (x = "dict") && T.gb S x && a.ck T S y && notStar y
  | .dsp ks vs, .Dict keys values _ => keys.all (·.isSome) && ks.ck T S (keys.filterMap id) && vs.ck T S values && decide (keys.length = values.length) && !keys.isEmpty && decide (keys.length ≤ 15)
  | .lst es, .List xs _ => es.ck T S xs
  | .cut a lo hi, .Subscript x (.Slice l h none _) _ => a.ck T S x && lo.ck T S l && hi.ck T S h
  | .stp a lo hi st, .Subscript x (.Slice l h (some s) _) _ => a.ck T S x && lo.ck T S l && hi.ck T S h && st.ck T S s
  | .comp elt vs tg it t, .ListComp x [⟨y, z, ifs, 0⟩] scope _ => it.md S.mode && (S.mode == 0 || tg.isVar) && it.ck T S z && notSet z && blkS S scope (ownOf S vs) && tg.slots.all (fun j => decide (j ∈ vs)) && it.tgk y &&
      tg.ck (fun i n => decide (S.N[i]? = some n) && (decide ((S.inner scope).names.lookup n = some .local) || (decide ((S.inner scope).names.lookup n = some .cell) && decide (scope.names.lookup n = some .cell)))) y && elt.ck T (S.inner scope) x && decide (ifs.length ≤ 1) && t.ck T (S.inner scope) ifs.head?
  | _, _ => false
def I.ck (T : Tab) (S : SC) : I → Expr → Bool
  | .seq e, x => e.ck T S x
  | .rng1 a, .Call (.Name x _) [y] [] _ => decide (x = "range") && T.gb S x && a.ck T S y && notStar y
  | .rng2 a b, .Call (.Name x _) [y, z] [] _ => decide (x = "range") && T.gb S x && a.ck T S y && notStar y && b.ck T S z && notStar z
  | .rng3 a b c, .Call (.Name x _) [y, z, w] [] _ => decide (x = "range") && T.gb S x && a.ck T S y && notStar y && b.ck T S z && notStar z && c.ck T S w && notStar w
  | .zip a b, .Call (.Name x _) [y, z] [] _ => decide (x = "zip") && T.gb S x && a.ck T S y && notStar y && b.ck T S z && notStar z
  | .enum a, .Call (.Name x _) [y] [] _ => decide (x = "enumerate") && T.gb S x && a.ck T S y && notStar y
  | .own i, .Name x _ => S.at i x
  | _, _ => false
end
end Z

namespace Z
open PySem PySem.Spec PyProof.Rows L2
/-- what it promises -/
def spF (K : PySem.W.Frag) (ct : Nat → Addr) (p : Fd) : Sp := match p.pin with
  | none => spD K ct p.ar p.sem
  | some q => spP K p.ar q p.sem
def Ready (X : Cx) (ct : Nat → Addr) (p : Fd) : Prop := ∃ (k : Nat) (f : Addr) (fd : FuncData) (ps : List Str), FnOk X.prog X.w X.K X.mg X.base (L2N.CX X.prog X.w) k f fd ps (spF X.K ct p) ∧ Room k X.A ∧ X.mg p.name = some (.ref f) ∧ PySem.W.keepIn X.K (.ref f) = true ∧ Binds X.K fd ps []
def ReadyH (X : Cx) (ct : Nat → Addr) (p : Fd) : Prop := ∃ (k : Nat) (f : Addr) (fd : FuncData) (ps : List Str), FnT X.prog X.w X.K X.mg X.base k f fd ps (spD X.K ct p.ar p.sem) ∧ L2H.RoomH k X.A ∧ X.mg p.name = some (.ref f) ∧ PySem.W.keepIn X.K (.ref f) = true ∧ Binds X.K fd ps []
def clsV (K : PySem.W.Frag) (d : Nat) : Value := if d = 15 then .type "ValueError" else .ref (ctOf K d)
/-- what a raised class must say -/
structure ExcK (K : PySem.W.Frag) (mg : Str → Option Value) (qs : List Nat) (c : Nat) : Prop where
  mgc : mg (exNm c) = some (.ref (ctOf K c))
  kp : PySem.W.keepIn K (.ref (ctOf K c)) = true
  mx : PySem.W.excIn K (ctOf K c) [.type "ValueError", .type "Exception", .type "BaseException", .type "object"] "ValueError.__new__" = true
  ec : ExcC K (ctOf K c)
  ty : PySem.W.typeIn K (.ref (ctOf K c)) = some (.type "type")
  nd : (exNm c == ("__debug__" : Str)) = false
  it : ∀ d ∈ qs, PySem.W.kitOne K (.ref (ctOf K c)) (clsV K d) = some (subE c d)
  ex : ∀ d ∈ qs, d ≠ 15 → PySem.W.exmOne K (.ref (ctOf K c)) (clsV K d) = some (subE c d)
structure OkX (T : Tab) (S : SC) (X : Cx) (W : Wi) : Prop where
  N : X.N = S.N
  nd : X.N.Nodup
  names : X.env.scope.names = S.names
  kind : X.env.scope.kind = .function
  calm : S.mode = 0 → X.calm = true
  hot : S.mode = 1 → HotX X
  hu : X.A.units + 65 < cLine
  tk : L2N.Takes X W.w
  call : S.mode = 0 → ∀ (k : Nat) (p : Fd), T.fns[k]? = some p → Ready X W.ct p
  ct : W.ct = ctOf X.K
  exc : ∀ c ∈ T.rs, ExcK X.K X.mg T.qs c
  ask : ∀ d ∈ T.qs, d ≠ 15 → X.mg (exNm d) = some (.ref (ctOf X.K d)) ∧ (exNm d == ("__debug__" : Str)) = false
  bi : ∀ x ∈ T.bis, X.mg x = none
  glo : ∀ (k : Nat) (p : Str × D), T.cons[k]? = some p → ∃ u v, X.mg p.1 = some u ∧ RelV v u ∧ ∀ H, Rep X.K H v p.2
section
variable {T : Tab} {S : SC} {X : Cx} {W : Wi} {pos : Pos}
theorem OkX.at (O : OkX T S X W) {i : Nat} {x : Str} {p : Pos} (h : S.at i x = true) : PE X (.Name x p) (tVar i) := by
  unfold SC.at SC.vis at h
  simp only [Bool.and_eq_true, Bool.or_eq_true, decide_eq_true_eq, Bool.not_eq_true'] at h
  obtain ⟨⟨⟨h1, h2⟩, h3⟩, h4⟩ := h
  refine pe_var (by rw [O.N]; exact h1) ?_ h3 h4
  unfold Vis
  rw [O.names]
  rcases h2 with (h2 | h2) | h2
  · exact .inl h2
  · exact .inr (.inl h2)
  · exact .inr (.inr h2)
theorem OkX.gl (O : OkX T S X W) {x : Str} (h : S.gl x = true) : Gl X x := by
  unfold SC.gl at h
  unfold Gl Env.kindOf
  rw [O.names]
  exact of_decide_eq_true h
theorem OkX.gb (O : OkX T S X W) {x : Str} (h : T.gb S x = true) : Gl X x ∧ X.mg x = none ∧ (x == ("__debug__" : Str)) = false := by
  unfold Tab.gb at h
  simp only [Bool.and_eq_true, decide_eq_true_eq, Bool.not_eq_true'] at h
  exact ⟨O.gl h.1.1, O.bi x h.1.2, h.2⟩
theorem OkX.loc (O : OkX T S X W) {x : Str} (h : S.loc x = true) : L2.Loc X.env.scope x := by
  unfold SC.loc at h
  simp only [Bool.or_eq_true, decide_eq_true_eq] at h
  unfold L2.Loc
  rw [O.names]
  exact h
theorem takesN {X : Cx} : L2N.Takes X (fun _ _ _ _ => False) := fun _ _ x => by
  obtain ⟨_, _, _, _, _, _, _, _, _, _, _, _, _, _, _, _, z⟩ := x
  exact z.elim
theorem inner_0 {S : SC} {scope : Scope} (h : (S.inner scope).mode = 0) : S.mode = 0 := by
  unfold SC.inner at h
  dsimp only at h
  split at h
  · cases h
  · exact h
theorem inner_1 (S : SC) (scope : Scope) : ¬ (S.inner scope).mode = 1 := by
  intro h
  unfold SC.inner at h
  dsimp only at h
  split at h
  · cases h
  · rename_i n
    rw [h] at n
    exact n rfl
/-- in the block of a comprehension -/
theorem OkX.blk (O : OkX T S X W) {scope : Scope} (hk : scope.kind = .function) (s : Shared) (H : Hp) (C : Addr) (cl : List (Str × Addr)) (fp : List Addr) :
    OkX T (S.inner scope) (X.blk s H scope (compEnvC scope cl C X.env) fp) (Wi.none W.ct) where
  N := O.N
  nd := O.nd
  names := by
    show (scope.names.map fun (n, k) => if (k == NameKind.free && X.env.scope.kind == ScopeKind.function && X.env.kindOf n == some NameKind.cell) then (n, NameKind.cell) else (n, k)) = _
    unfold SC.inner
    show _ = scope.names.map _
    refine List.map_congr_left fun y _ => ?_
    obtain ⟨n, k⟩ := y
    have e : (X.env.scope.kind == ScopeKind.function) = true := by rw [O.kind]; rfl
    show (if (k == NameKind.free && X.env.scope.kind == ScopeKind.function && X.env.scope.names.lookup n == some NameKind.cell) = true then _ else _) = _
    rw [e, O.names, Bool.and_true]
  kind := hk
  calm := fun e => O.calm (inner_0 e)
  hot := fun e => absurd e (inner_1 _ _)
  hu := O.hu
  tk := takesN
  call := fun e => O.call (inner_0 e)
  ct := O.ct
  exc := O.exc
  ask := O.ask
  bi := O.bi
  glo := O.glo
inductive AllG (X : Cx) (W : Wi) : List Expr → List Den → Prop
  | nil : AllG X W [] []
  | cons {x : Expr} {xs : List Expr} {f : Den} {fs : List Den} : PE X x (tM X.K W f) → PT X x (tT X.K W f) → notStar x = true → AllG X W xs fs → AllG X W (x :: xs) (f :: fs)
theorem AllG.len : ∀ {xs : List Expr} {fs : List Den}, AllG X W xs fs → xs.length = fs.length
  | _, _, .nil => rfl
  | _, _, .cons _ _ _ r => by rw [List.length_cons, List.length_cons, r.len]
theorem AllG.args : ∀ {xs : List Expr} {fs : List Den}, AllG X W xs fs → PA X xs (tA X.K W (dArgs fs))
  | _, _, .nil => ma_nil
  | _, _, .cons h _ n r => ma_cons h r.args (starEach_of n _ _)
theorem AllG.plain : ∀ {xs : List Expr} {fs : List Den}, AllG X W xs fs → (backTo pos (starEach xs X.env)).any (·.1) = false
  | _, _, .nil => rfl
  | _, _, .cons (x := x) (xs := xs) h _ n r => by
    rw [starEach_of n]
    show (false || (backTo pos (starEach xs X.env)).any (·.1)) = false
    rw [r.plain]
    rfl
theorem AllG.ns {x : Expr} {xs : List Expr} {fs : List Den} (h : AllG X W (x :: xs) fs) : notStar x = true ∧ (backTo pos (starEach xs X.env)).any (·.1) = false := by
  cases h with
  | cons _ _ n r => exact ⟨n, r.plain⟩
theorem AllG.and_ : ∀ {xs : List Expr} {fs : List Den}, AllG X W xs fs → xs ≠ [] → PE X (.BoolOp .And xs pos) (tM X.K W (dAnds fs)) ∧ PW X (.BoolOp .And xs pos) (tT X.K W (dAnds fs))
  | _, _, .nil, h => absurd rfl h
  | _, _, .cons h t n .nil, _ => ⟨pe_one h, pw_and1 t⟩
  | _, _, .cons h t n (.cons h2 t2 n2 r), _ => by
    obtain ⟨a, b⟩ := AllG.and_ (.cons h2 t2 n2 r) (by simp)
    exact ⟨me_and h a, mw_and t b⟩
theorem AllG.or_ : ∀ {xs : List Expr} {fs : List Den}, AllG X W xs fs → xs ≠ [] → PE X (.BoolOp .Or xs pos) (tM X.K W (dOrs fs)) ∧ PW X (.BoolOp .Or xs pos) (tT X.K W (dOrs fs))
  | _, _, .nil, h => absurd rfl h
  | _, _, .cons h t n .nil, _ => ⟨pe_one h, pw_or1 t⟩
  | _, _, .cons h t n (.cons h2 t2 n2 r), _ => by
    obtain ⟨a, b⟩ := AllG.or_ (.cons h2 t2 n2 r) (by simp)
    exact ⟨me_or h a, mw_or t b⟩
theorem mt_ite {c a b : Expr} {fc fa fb : Den} (hc : PT X c (tT X.K W fc)) (ha : PT X a (tT X.K W fa)) (hb : PT X b (tT X.K W fb)) : PT X (.IfExp c a b pos) (tT X.K W (dIte fc fa fb)) := by
  refine ⟨fun pins s σ H Q I ⟨G, δ, H0, R, h⟩ => ?_⟩
  show wpAny _ _ (do if ← isTrue c X.env (eval c X.env) then isTrue a X.env (eval a X.env) else isTrue b X.env (eval b X.env)) _ _ _
  refine wpAny_bind (thn (hc.run pins s σ H (fun b' H' => if b' = true then tT X.K W fa σ H' Q else tT X.K W fb σ H' Q) I ⟨G, δ, H0, R, PoT.bindQ h fun k δ1 H1 H' R1 s1 h1 => by
    cases k with
    | true => exact ⟨G, δ1, H1, R1, h1⟩
    | false => exact ⟨G, δ1, H1, R1, h1⟩⟩) fun k s1 ⟨H1, I1, q1⟩ => ?_)
  cases k with
  | true => exact ha.run pins s1 σ H1 Q I1 q1
  | false => exact hb.run pins s1 σ H1 Q I1 q1
/-- a value that is also a test -/
theorem both {x : Expr} {f : Den} (h : PE X x (tM X.K W f)) (p : plainT x = true) : PE X x (tM X.K W f) ∧ PT X x (tT X.K W f) := ⟨h, mt_val h (isTrue_of p _)⟩
theorem op_isM : OpR X (compareOp .Is) (rM X.K (isD false)) := OpR_imp (OpR_or op_isBl op_isN) fun x y H Q ⟨H0, d, e, z, s, rx, ry, hz, q⟩ => by
  unfold isD at hz
  split at hz
  · cases hz; cases rx; cases ry; exact .inl ⟨_, _, rfl, rfl, q _ H0 H (Gr.refl s) (.bl _)⟩
  · cases hz; cases rx; cases ry; exact .inr ⟨rfl, q _ H0 H (Gr.refl s) (.bl _)⟩
  · rename_i n
    cases hz; cases ry
    have e : decide (x = V.non) = false := decide_eq_false fun e => by subst e; cases rx; exact n rfl
    exact .inr ⟨rfl, by rw [e]; exact q _ H0 H (Gr.refl s) (.bl _)⟩
  · cases hz
theorem op_isnotM : OpR X (compareOp .IsNot) (rM X.K (isD true)) := OpR_imp (OpR_or op_notBl op_notN) fun x y H Q ⟨H0, d, e, z, s, rx, ry, hz, q⟩ => by
  unfold isD at hz
  split at hz
  · cases hz; cases rx; cases ry; exact .inl ⟨_, _, rfl, rfl, q _ H0 H (Gr.refl s) (.bl _)⟩
  · cases hz; cases rx; cases ry; exact .inr ⟨rfl, q _ H0 H (Gr.refl s) (.bl _)⟩
  · rename_i n
    cases hz; cases ry
    have e : decide (x = V.non) = false := decide_eq_false fun e => by subst e; cases rx; exact n rfl
    exact .inr ⟨rfl, by rw [e]; exact q _ H0 H (Gr.refl s) (.bl _)⟩
  · cases hz
theorem blkS_ok (O : OkX T S X W) {scope : Scope} {own : List (Str × Nat)} (h : blkS S scope own = true) : BlkOk X.N X.env.scope scope own ∧ scope.kind = .function := by
  unfold blkS at h
  simp only [Bool.and_eq_true] at h
  have hb : blkC X.N X.env.scope scope own = true := by
    unfold blkC
    simp only [Bool.and_eq_true]
    rw [O.N, O.names]
    exact h
  exact ⟨blkOk_by hb, (blkOk_by hb).kind⟩
theorem tgN_ok {ok : Nat → Str → Bool} {is : List Nat} {xs : List Expr} (h : tgN ok is xs = true) (hn : ∀ i x p, ok i x = true → PG X (.Name x p) (gName i)) :
    PGs X xs (gNames is) ∧ (assignEach xs X.env).length = is.length ∧ (assignEach xs X.env).findIdx? (·.1) = none := by
  induction is generalizing xs with
  | nil =>
    cases xs with
    | nil => exact ⟨pgs_nil, rfl, rfl⟩
    | cons x xs => cases h
  | cons i is ih =>
    cases xs with
    | nil => cases h
    | cons x xs =>
      cases x with
      | Name n p =>
        have h : (ok i n && tgN ok is xs) = true := h
        rw [Bool.and_eq_true] at h
        obtain ⟨a, b, c⟩ := ih h.2
        refine ⟨pgs_cons (hn i n p h.1) a, ?_, ?_⟩
        · show (assignEach xs X.env).length + 1 = is.length + 1
          rw [b]
        · show List.findIdx? (·.1) ((false, assign (.Name n p) X.env) :: assignEach xs X.env) = none
          rw [List.findIdx?_cons]
          simp only [Bool.false_eq_true, if_false]
          rw [c]
          rfl
      | _ => cases h
theorem tgNs_ok {ok : Nat → Str → Bool} {iss : List (List Nat)} {xs : List Expr} (hc : X.calm = true) (h : tgNs ok iss xs = true) (hn : ∀ i x p, ok i x = true → PG X (.Name x p) (gName i)) :
    PGs X xs (gNsts X.K iss) ∧ (assignEach xs X.env).length = iss.length ∧ (assignEach xs X.env).findIdx? (·.1) = none := by
  induction iss generalizing xs with
  | nil =>
    cases xs with
    | nil => exact ⟨pgs_nil, rfl, rfl⟩
    | cons x xs => cases h
  | cons is iss ih =>
    cases xs with
    | nil => cases h
    | cons x xs =>
      cases x with
      | Tuple ys k p =>
        have h : (tgN ok is ys && tgNs ok iss xs) = true := h
        rw [Bool.and_eq_true] at h
        obtain ⟨a, b, c⟩ := ih h.2
        obtain ⟨a1, b1, c1⟩ := tgN_ok (X := X) (xs := ys) (is := is) h.1 hn
        refine ⟨pgs_cons (mg_tup hc a1 b1 c1) a, ?_, ?_⟩
        · show (assignEach xs X.env).length + 1 = iss.length + 1
          rw [b]
        · show List.findIdx? (·.1) ((false, assign (.Tuple ys k p) X.env) :: assignEach xs X.env) = none
          rw [List.findIdx?_cons]
          simp only [Bool.false_eq_true, if_false]
          rw [c]
          rfl
      | _ => cases h
theorem Tg.ok {ok : Nat → Str → Bool} {tg : Tg} {x : Expr} (hc : X.calm = true ∨ tg.isVar = true) (h : tg.ck ok x = true) (hn : ∀ i x p, ok i x = true → PG X (.Name x p) (gName i)) : PG X x (gM X.K tg.st tg.slots) := by
  cases tg with
  | var i =>
    cases x with
    | Name n p => exact mg_name (hn i n p h)
    | _ => cases h
  | tup is =>
    cases x with
    | Tuple xs k p =>
      obtain ⟨a, b, c⟩ := tgN_ok (X := X) (xs := xs) (is := is) h hn
      rcases hc with hc | hc
      · exact mg_tup hc a b c
      · cases hc
    | _ => cases h
  | nst iss =>
    cases x with
    | Tuple xs k p =>
      rcases hc with hc | hc
      · obtain ⟨a, b, c⟩ := tgNs_ok (X := X) (xs := xs) (iss := iss) hc h hn
        exact mg_nst hc a b c
      · cases hc
    | _ => cases h
end
theorem FnOk.plain {prog : Program} {w : World} {K : PySem.W.Frag} {mg : Str → Option Value} {base : Heap} {CX : CXT} {k : Nat} {f : Addr} {fd : FuncData} {ps : List Str} {ct : Nat → Addr} {q : Fd} (F : FnOk prog w K mg base CX k f fd ps (spF K ct q)) (h : q.pin.isNone = true) :
    FnOk prog w K mg base CX k f fd ps (spD K ct q.ar q.sem) := by
  unfold spF at F
  cases e : q.pin with
  | none => rw [e] at F; exact F
  | some j => rw [e] at h; cases h
theorem FnOk.taken {prog : Program} {w : World} {K : PySem.W.Frag} {mg : Str → Option Value} {base : Heap} {CX : CXT} {k : Nat} {f : Addr} {fd : FuncData} {ps : List Str} {ct : Nat → Addr} {q : Fd} (F : FnOk prog w K mg base CX k f fd ps (spF K ct q)) (h : q.pin.isSome = true) :
    FnOk prog w K mg base CX k f fd ps (spP K q.ar (q.pin.getD 0) q.sem) := by
  unfold spF at F
  cases e : q.pin with
  | none => rw [e] at h; cases h
  | some j => rw [e] at F; exact F
inductive NoStar : List Expr → Prop
  | nil : NoStar []
  | cons {x : Expr} {xs : List Expr} : notStar x = true → NoStar xs → NoStar (x :: xs)
theorem NoStar.plain {X : Cx} {pos : Pos} : ∀ {xs : List Expr}, NoStar xs → (backTo pos (starEach xs X.env)).any (·.1) = false
  | _, .nil => rfl
  | _, .cons (xs := xs) n r => by
    rw [starEach_of n]
    show (false || (backTo pos (starEach xs X.env)).any (·.1)) = false
    rw [r.plain]
    rfl
theorem NoStar.ns {X : Cx} {pos : Pos} {x : Expr} {xs : List Expr} (h : NoStar (x :: xs)) : notStar x = true ∧ (backTo pos (starEach xs X.env)).any (·.1) = false := by
  cases h with
  | cons n r => exact ⟨n, r.plain⟩
theorem Ps.shut_ok {T : Tab} : ∀ {ps : Ps}, Ps.opn.shut ps = true → ∀ (j : Nat), (ps.den T)[j]? ≠ some none
  | .nil, _, j => by unfold Ps.den; simp
  | .own _, h, _ => by cases h
  | .cons e ps, h, 0 => by unfold Ps.den; simp
  | .cons e ps, h, j + 1 => by unfold Ps.den; simpa using Ps.shut_ok (T := T) (ps := ps) h j
theorem Ps.opens {T : Tab} : ∀ {ps : Ps} {q : Nat}, ps.opn q = true → Z.opens q (ps.den T)
  | .nil, _, h => by cases h
  | .own ps, 0, h => by
    refine ⟨by unfold Ps.den; rfl, fun j hj => ?_⟩
    cases j with
    | zero => exact absurd rfl hj
    | succ j => unfold Ps.den; simpa using Ps.shut_ok (T := T) h j
  | .own _, q + 1, h => by cases h
  | .cons _ _, 0, h => by cases h
  | .cons e ps, q + 1, h => by
    obtain ⟨a, b⟩ := Ps.opens (T := T) (ps := ps) (q := q) h
    refine ⟨by unfold Ps.den; simpa using a, fun j hj => ?_⟩
    cases j with
    | zero => unfold Ps.den; simp
    | succ j => unfold Ps.den; simpa using b j (by omega)
theorem of_and {a b : Bool} (h : (a && b) = true) : a = true ∧ b = true := by
  rw [Bool.and_eq_true] at h; exact h
theorem wi_of {T : Tab} {S : SC} {X : Cx} {W : Wi} {tg x : Expr} : ∀ {it : I} (_ : PI X tg x (tI X.K W (it.den T))) (_ : OkX T S X W) (_ : it.ck T S x = true), PI X tg x (wiI X.K W it.ow (it.den T))
  | .own i, h, O, hk => by
    cases x with
    | Name n p => exact PI_or h (pi_own (O.at hk))
    | _ => cases hk
  | .seq _, h, _, _ => h
  | .rng1 _, h, _, _ => h
  | .rng2 _ _, h, _, _ => h
  | .zip _ _, h, _, _ => h
  | .enum _, h, _, _ => h
  | .rng3 _ _ _, h, _, _ => h
theorem compOk_of {T : Tab} {elt : E} {vs : List Nat} {tg : Tg} {it : I} {t : Op} (hel : ∀ {S : SC} {X : Cx} {W : Wi} (_ : OkX T S X W) (x : Expr), elt.ck T S x = true → PE X x (tM X.K W (elt.den T)))
    (hit : ∀ {S : SC} {X : Cx} {W : Wi} (_ : OkX T S X W) (tg x : Expr), it.ck T S x = true → it.tgk tg = true → PI X tg x (tI X.K W (it.den T))) (ht : ∀ {S : SC} {X : Cx} {W : Wi} (_ : OkX T S X W) (x : Option Expr), t.ck T S x = true → PTs X x.toList (tO X.K W (t.den T)))
    {S : SC} {X : Cx} {W : Wi} (O : OkX T S X W) (x : Expr) (h : (F.comp elt vs tg it t).ck T S x = true) :
    ∃ y z ifs scope p x1, x = .ListComp x1 [⟨y, z, ifs, 0⟩] scope p ∧ CompOk X W x1 y z ifs scope (ownOf S vs) (it.den T) tg.st tg.slots (t.den T) (elt.den T) ∧ PI X y z (wiI X.K W it.ow (it.den T)) := by
    cases x with
    | ListComp x1 gs scope p =>
      match gs, h with
      | [⟨y, z, ifs, 0⟩], h =>
        have h : (it.md S.mode && (S.mode == 0 || tg.isVar) && it.ck T S z && notSet z && blkS S scope (ownOf S vs) && tg.slots.all (fun j => decide (j ∈ vs)) && it.tgk y &&
          tg.ck (fun i n => decide (S.N[i]? = some n) && (decide ((S.inner scope).names.lookup n = some .local) || (decide ((S.inner scope).names.lookup n = some .cell) && decide (scope.names.lookup n = some .cell)))) y && elt.ck T (S.inner scope) x1 && decide (ifs.length ≤ 1) && t.ck T (S.inner scope) ifs.head?) = true := h
        obtain ⟨h1, h7⟩ := of_and h
        obtain ⟨h1, h8⟩ := of_and h1
        obtain ⟨h1, h6⟩ := of_and h1
        obtain ⟨h1, h5⟩ := of_and h1
        obtain ⟨h1, h9⟩ := of_and h1
        obtain ⟨h1, h4⟩ := of_and h1
        obtain ⟨h1, h3⟩ := of_and h1
        obtain ⟨h1, h2⟩ := of_and h1
        obtain ⟨h0, h1⟩ := of_and h1
        obtain ⟨_, h0⟩ := of_and h0
        have hv : X.calm = true ∨ tg.isVar = true := by
          rw [Bool.or_eq_true] at h0
          rcases h0 with h0 | h0
          · exact .inl (O.calm (by simpa using h0))
          · exact .inr h0
        obtain ⟨B, hk⟩ := blkS_ok O h3
        have e : (ownOf S vs).map (·.2) = vs := by
          unfold ownOf
          rw [List.map_map]
          exact List.map_id' _
        refine ⟨y, z, ifs, scope, p, x1, rfl, ⟨fun j hj => ?_, hit O y z h1 h9, B, fun s H C cl fp => ?_, fun s H C cl fp => ?_, fun s H C cl fp => hel (O.blk hk s H C cl fp) x1 h6, folded_of h2 _⟩, wi_of (hit O y z h1 h9) O h1⟩
        · rw [e]
          exact of_decide_eq_true (List.all_eq_true.mp h4 j hj)
        · refine Tg.ok (X := X.blk s H scope (compEnvC scope cl C X.env) fp) hv h5 fun i n p hn => ?_
          obtain ⟨n1, n2⟩ := of_and hn
          have Ob := O.blk hk s H C cl fp
          rw [Bool.or_eq_true, Bool.and_eq_true] at n2
          rcases n2 with n2 | ⟨n2, n3⟩
          · have hl : (compEnvC scope cl C X.env).scope.names.lookup n = some .local := by rw [Ob.names]; exact of_decide_eq_true n2
            exact pg_name O.nd (by rw [O.N]; exact of_decide_eq_true n1) (.inl hl) (.inr hl)
          · have hl : (compEnvC scope cl C X.env).scope.names.lookup n = some .cell := by rw [Ob.names]; exact of_decide_eq_true n2
            refine pg_name O.nd (by rw [O.N]; exact of_decide_eq_true n1) (.inr hl) (.inl ?_)
            show (scope.names.lookup n == some .cell) = true
            rw [of_decide_eq_true n3]
            rfl
        · have el : ifs.head?.toList = ifs := by
            have := of_decide_eq_true h8
            match ifs, this with
            | [], _ => rfl
            | [c], _ => rfl
            | _ :: _ :: _, z => simp at z
          have m := ht (O.blk hk s H C cl fp) ifs.head? h7
          rw [el] at m
          exact m
    | _ => cases h
theorem md_hot {it : I} {m : Nat} (h : it.md m = true) (h0 : ¬ m = 0) : ∃ a, it = .rng1 a ∧ m = 1 := by
  match m, it, h with
  | 0, _, _ => exact absurd rfl h0
  | 1, .rng1 a, _ => exact ⟨a, rfl, rfl⟩
theorem rng_hot {T : Tab} {S : SC} {X : Cx} {W : Wi} {a : E} {x : Expr} (hel : ∀ {S : SC} {X : Cx} {W : Wi} (_ : OkX T S X W) (x : Expr), a.ck T S x = true → PE X x (tM X.K W (a.den T))) (O : OkX T S X W) (h : (I.rng1 a).ck T S x = true) :
    ∃ (p1 : Pos) (y : Expr) (p2 : Pos), x = .Call (.Name "range" p1) [y] [] p2 ∧ Gl X "range" ∧ X.mg "range" = none ∧ PA X [y] (tA X.K W (dArgs [a.den T])) ∧ starEach [y] X.env = [(false, eval y X.env)] := by
  cases x with
  | Call fn ys kws p =>
    match fn, ys, kws, h with
    | .Name n p1, [y], [], h =>
      have h : (decide (n = "range") && T.gb S n && a.ck T S y && notStar y) = true := h
      obtain ⟨h1, h4⟩ := of_and h
      obtain ⟨h1, h3⟩ := of_and h1
      obtain ⟨h1, h2⟩ := of_and h1
      have e : n = "range" := of_decide_eq_true h1
      subst e
      obtain ⟨g1, g2, _⟩ := O.gb h2
      have s := starEach_of h4 [] X.env
      exact ⟨p1, y, p, rfl, g1, g2, ma_cons (hel O y h3) ma_nil s, s⟩
  | _ => cases h
theorem un_isE {T : Tab} {X : Cx} {W : Wi} {S : SC} (O : OkX T S X W) {d : Nat} (hd : d ∈ T.qs) {p p2 pos : Pos} {e : Expr} {f : Den} (ha : PE X e (tM X.K W f)) (hg : Gl X "isinstance") (hm : X.mg "isinstance" = none) (hz : (d = 15 ∧ Gl X (exNm d) ∧ X.mg (exNm d) = none) ∨ (d ≠ 15 ∧ Gl X (exNm d)))
    (he : starEach (e :: [.Name (exNm d) p2]) X.env = (false, eval e X.env) :: starEach [.Name (exNm d) p2] X.env) : PE X (.Call (.Name "isinstance" p) [e, .Name (exNm d) p2] [] pos) (tM X.K W (dUn (isED T.rs d) f)) := by
  have hT : ∃ c, ClsV c (clsV X.K d) ∧ PE X (.Name (exNm d) p2) (tC c) := by
    unfold clsV
    rcases hz with ⟨rfl, g1, g2⟩ | ⟨hn, g1⟩
    · exact ⟨.ty "ValueError", .ty _, pe_bltn g1 g2 (by decide +kernel) rfl (by decide +kernel) (by decide +kernel)⟩
    · obtain ⟨k1, k2⟩ := O.ask d hd hn
      rw [if_neg hn]
      exact ⟨.ref (ctOf X.K d), .own _, pe_glob g1 k1 rfl k2⟩
  obtain ⟨c, hc, hT⟩ := hT
  refine PE_imp (pe_callB call_isX hg hm boot_isinstance (pa_cons ha (pa_cons hT pa_nil rfl) he) (by decide +kernel) (by decide +kernel) he rfl) fun σ H Q ⟨G, δ, H0, R, h⟩ => ⟨G, δ, H0, R, PoE.bind h fun v δ1 u H01 H1 R1 s1 r1 h1 => ?_⟩
  obtain ⟨z, hz, h3⟩ := ofO_some h1
  unfold isED at hz
  split at hz
  · rename_i k
    split at hz
    · rename_i hr
      cases hz
      have kx := O.exc k (by simpa using hr)
      cases r1 with
      | exc ha x =>
        obtain ⟨x1, x2, vs, x3, _⟩ := x
        exact ⟨_, _, _, c, _, _, rfl, R1.hs _ _ ha, x1, x2, ⟨vs, x3⟩, kx.ec, hc, kx.it d hd, h3.val R1 (.bl _)⟩
    · cases hz
  · cases hz
theorem me_call0 {X : Cx} {W : Wi} {k : Nat} {f : Addr} {fd : FuncData} {ps : List Str} {ct : Nat → Addr} {x : Str} {p pos : Pos} {g : List D → RD} (F : FnOk X.prog X.w X.K X.mg X.base (L2N.CX X.prog X.w) k f fd ps (spD X.K ct 0 g)) (hr : Room k X.A) (hg : Gl X x) (hm : X.mg x = some (.ref f)) (hk : PySem.W.keepIn X.K (.ref f) = true) (hb : Binds X.K fd ps [])
    (tk : L2N.Takes X W.w) (hct : W.ct = ct) (hdb : (x == ("__debug__" : Str)) = false) : PE X (.Call (.Name x p) [] [] pos) (tM X.K W (dCall g [])) := by
  have ha : PA X [] tNil := pa_nil
  refine ⟨fun pins s σ H Q I h => wpAny_Call_Name_kw (ld_glob I hg hm ?_ hdb)⟩
  obtain ⟨G, δ, H0, R, q⟩ := h
  have q : PoE X.K W G σ H0 (ofD (g []) δ) Q := q
  have sp : spD X.K ct 0 g [] H Q (WE W.w σ) := by
    refine ⟨H0, [], R.hs, .nil, rfl, ?_⟩
    cases hg : g [] with
    | ok d => rw [hg] at q; exact fun v H2 H'' gr r => q v H2 H'' (R.grow gr) gr.h0 r
    | ow o =>
      rw [hg] at q
      exact fun a H2 H'' gr n n0 ow => read_in q (R.grow gr) gr.h0 n0 (R.he_none n) ow (R.own_ne n)
    | okp d o => rw [hg] at q; exact q.elim
    | owp d o => rw [hg] at q; exact q.elim
    | rz c => rw [hg] at q; exact fun cls dd H2 H'' gr x => q cls dd H2 H'' (R.grow gr) gr.h0 (by rw [hct]; exact x)
    | bad => rw [hg] at q; exact q.elim
  exact PySem.W.callWith_K0 I.kIn hk (run_fnS (us := []) (E := fun σ => WE W.w σ) F hr hb (L2N.passAt tk σ) I .nil sp)
theorem last_of {c : Expr} (h : notSet c = true) (op op' : CmpOp) (b : Expr) : lastMarks [op, op'] [b, c] = false := by
  show behindInMarks op' c = false
  cases c <;> first | rfl | cases h
theorem FnOk.taken1 {prog : Program} {w : World} {K : PySem.W.Frag} {mg : Str → Option Value} {base : Heap} {CX : CXT} {k : Nat} {f : Addr} {fd : FuncData} {ps : List Str} {ct : Nat → Addr} {q : Fd} (F : FnOk prog w K mg base CX k f fd ps (spF K ct q)) (h : q.pin = some 0) (h1 : q.ar = 1) :
    FnOk prog w K mg base CX k f fd ps (spP K 1 0 q.sem) := by
  unfold spF at F
  rw [h, h1] at F
  exact F
theorem keys_some : ∀ {ks : List (Option Expr)}, ks.all (·.isSome) = true → ks = (ks.filterMap id).map some
  | [], _ => rfl
  | none :: _, h => by simp at h
  | some x :: ks, h => by
    have h : ks.all (·.isSome) = true := by simpa using h
    have e := keys_some h
    show some x :: ks = some x :: ((ks.filterMap id).map some)
    rw [← e]
theorem AllG.pairs {X : Cx} {W : Wi} {pos : Pos} : ∀ {xs : List Expr} {fs : List Den}, AllG X W xs fs → ∀ {ys : List Expr} {gs : List Den}, AllG X W ys gs → xs.length = ys.length → PPs X pos (xs.map some) ys ((fs.zip gs).map fun f => (tM X.K W f.1, tM X.K W f.2))
  | _, _, .nil, _, _, .nil, _ => pps_nil
  | _, _, .cons h _ _ r, _, _, .cons h2 _ _ r2, l => pps_cons h h2 (AllG.pairs r r2 (by simpa using l))
  | _, _, .nil, _, _, .cons _ _ _ _, l => by simp at l
  | _, _, .cons _ _ _ _, _, _, .nil, l => by simp at l
set_option maxHeartbeats 4000000
mutual
theorem E.ok {T : Tab} : ∀ (e : E) {S : SC} {X : Cx} {W : Wi} (_ : OkX T S X W) (x : Expr), e.ck T S x = true → PE X x (tM X.K W (e.den T)) ∧ PT X x (tT X.K W (e.den T))
  | .var i, S, X, W, O, x, h => by
    cases x with
    | Name n p => exact both (me_var (O.at h)) rfl
    | _ => cases h
  | .int i, S, X, W, O, x, h => by
    cases x with
    | Constant c k p =>
      cases c with
      | int j =>
        have e : i = j := of_decide_eq_true h
        subst e
        exact both (me_cst pe_int fun _ => .int _) rfl
      | _ => cases h
    | _ => cases h
  | .str i, S, X, W, O, x, h => by
    cases x with
    | Constant c k p =>
      cases c with
      | str j =>
        have e : i = j := of_decide_eq_true h
        subst e
        exact both (me_cst pe_str fun _ => .str _) rfl
      | _ => cases h
    | _ => cases h
  | .bl i, S, X, W, O, x, h => by
    cases x with
    | Constant c k p =>
      cases c with
      | bool j =>
        have e : i = j := of_decide_eq_true h
        subst e
        exact both (me_cst pe_bl fun _ => .bl _) rfl
      | _ => cases h
    | _ => cases h
  | .non, S, X, W, O, x, h => by
    cases x with
    | Constant c k p =>
      cases c with
      | none => exact both (me_cst pe_non fun _ => .non) rfl
      | _ => cases h
    | _ => cases h
  | .glo k, S, X, W, O, x, h => by
    cases x with
    | Name n p =>
      have h : (S.gl n && !(n == ("__debug__" : Str)) && (match T.cons[k]? with
        | some p => decide (p.1 = n)
        | none => false)) = true := h
      obtain ⟨h1, h3⟩ := of_and h
      obtain ⟨h1, h2⟩ := of_and h1
      unfold E.den
      cases e : T.cons[k]? with
      | none => rw [e] at h3; cases h3
      | some q =>
        rw [e] at h3
        have e2 : q.1 = n := of_decide_eq_true h3
        subst e2
        obtain ⟨u, v, a, b, c⟩ := O.glo k q e
        exact both (me_cst (pe_glob (O.gl h1) a b (by rw [Bool.not_eq_true'] at h2; exact h2)) c) rfl
    | _ => cases h
  | .bin o a b, S, X, W, O, x, h => by
    cases x with
    | BinOp y op z p =>
      have h : (decide (op = o.op) && a.ck T S y && b.ck T S z) = true := h
      obtain ⟨h1, h3⟩ := of_and h
      obtain ⟨h1, h2⟩ := of_and h1
      have e : op = o.op := of_decide_eq_true h1
      subst e
      exact both (me_bin (opB o) (a.ok O y h2).1 (b.ok O z h3).1) rfl
    | _ => cases h
  | .neg a, S, X, W, O, x, h => by
    cases x with
    | UnaryOp op y p =>
      cases op with
      | USub => exact both (me_un un_negM (a.ok O y h).1) rfl
      | _ => cases h
    | _ => cases h
  | .not a, S, X, W, O, x, h => by
    cases x with
    | UnaryOp op y p =>
      cases op with
      | Not => exact ⟨me_not (a.ok O y h).1, mt_not (a.ok O y h).2⟩
      | _ => cases h
    | _ => cases h
  | .cmp o a b, S, X, W, O, x, h => by
    cases x with
    | Compare y ops zs p =>
      match ops, zs, h with
      | [op], [z], h =>
        have h : (decide (op = o.op) && a.ck T S y && b.ck T S z && notSet z) = true := h
        obtain ⟨h1, h4⟩ := of_and h
        obtain ⟨h1, h3⟩ := of_and h1
        obtain ⟨h1, h2⟩ := of_and h1
        have e : op = o.op := of_decide_eq_true h1
        subst e
        exact ⟨me_cmp (opC o O.hu) (a.ok O y h2).1 (b.ok O z h3).1 (behind_of h4 _), mt_cmp (opC o O.hu) (a.ok O y h2).1 (b.ok O z h3).1 (behind_of h4 _)⟩
    | _ => cases h
  | .isc n a b, S, X, W, O, x, h => by
    cases x with
    | Compare y ops zs p =>
      match ops, zs, h with
      | [op], [z], h =>
        have h : (decide (op = if n then .IsNot else .Is) && a.ck T S y && b.ck T S z && notSet z) = true := h
        obtain ⟨h1, h4⟩ := of_and h
        obtain ⟨h1, h3⟩ := of_and h1
        obtain ⟨h1, h2⟩ := of_and h1
        have e : op = if n then .IsNot else .Is := of_decide_eq_true h1
        subst e
        have ho : OpR X (compareOp (if n then .IsNot else .Is)) (rM X.K (isD n)) := by
          cases n with
          | true => exact op_isnotM
          | false => exact op_isM
        exact ⟨me_cmp ho (a.ok O y h2).1 (b.ok O z h3).1 (behind_of h4 _), mt_cmp ho (a.ok O y h2).1 (b.ok O z h3).1 (behind_of h4 _)⟩
    | _ => cases h
  | .and es, S, X, W, O, x, h => by
    cases x with
    | BoolOp op xs p =>
      cases op with
      | And =>
        have h : (es.ck T S xs && !xs.isEmpty) = true := h
        obtain ⟨h1, h2⟩ := of_and h
        obtain ⟨a, b⟩ := (es.ok O xs h1).and_ (pos := p) (fun z => by subst z; cases h2)
        exact ⟨a, b.pt⟩
      | _ => cases h
    | _ => cases h
  | .or es, S, X, W, O, x, h => by
    cases x with
    | BoolOp op xs p =>
      cases op with
      | Or =>
        have h : (es.ck T S xs && !xs.isEmpty) = true := h
        obtain ⟨h1, h2⟩ := of_and h
        obtain ⟨a, b⟩ := (es.ok O xs h1).or_ (pos := p) (fun z => by subst z; cases h2)
        exact ⟨a, b.pt⟩
      | _ => cases h
    | _ => cases h
  | .ite c a b, S, X, W, O, x, h => by
    cases x with
    | IfExp u y z p =>
      have h : (c.ck T S u && a.ck T S y && b.ck T S z) = true := h
      obtain ⟨h1, h3⟩ := of_and h
      obtain ⟨h1, h2⟩ := of_and h1
      exact ⟨me_ite (c.ok O u h1).2 (a.ok O y h2).1 (b.ok O z h3).1, mt_ite (c.ok O u h1).2 (a.ok O y h2).2 (b.ok O z h3).2⟩
    | _ => cases h
  | .tup es, S, X, W, O, x, h => by
    cases x with
    | Tuple xs k p => exact both (me_tup (es.ok O xs h).args) rfl
    | _ => cases h
  | .fr f, S, X, W, O, x, h => by
    obtain ⟨m, p⟩ := f.ok O x h
    exact both (me_fr m) p
  | .bi b es, S, X, W, O, x, h => by
    cases x with
    | Call fn ys kws p =>
      match fn, ys, kws, h with
      | .Name n p1, y :: ys, [], h =>
        have h : (S.mode == 0 && decide (n = b.name) && T.gb S n && es.ck T S (y :: ys)) = true := h
        obtain ⟨h1, h3⟩ := of_and h
        obtain ⟨h1, h2⟩ := of_and h1
        obtain ⟨h0, h1⟩ := of_and h1
        have h0 : S.mode = 0 := by simpa using h0
        obtain ⟨g1, g2, g3⟩ := O.gb h2
        have A := es.ok O (y :: ys) h3
        obtain ⟨n, r⟩ := A.ns (pos := p)
        exact both (me_Bi b (O.calm h0) (of_decide_eq_true h1) g1 g2 A.args (starEach_of n _ _) r) rfl
    | _ => cases h
  | .isi2 t1 t2 a, S, X, W, O, x, h => by
    cases x with
    | Call fn ys kws p =>
      match fn, ys, kws, h with
      | .Name n p1, [y, .Tuple [.Name z1 p2, .Name z2 p3] k p4], [], h =>
        have h : (decide (n = "isinstance") && T.gb S n && decide (z1 = t1.n) && T.gb S z1 && decide (z2 = t2.n) && T.gb S z2 && a.ck T S y && notStar y) = true := h
        obtain ⟨h1, h8⟩ := of_and h
        obtain ⟨h1, h7⟩ := of_and h1
        obtain ⟨h1, h6⟩ := of_and h1
        obtain ⟨h1, h5⟩ := of_and h1
        obtain ⟨h1, h4⟩ := of_and h1
        obtain ⟨h1, h3⟩ := of_and h1
        obtain ⟨h1, h2⟩ := of_and h1
        have e : n = "isinstance" := of_decide_eq_true h1
        have e1 : z1 = t1.n := of_decide_eq_true h3
        have e2 : z2 = t2.n := of_decide_eq_true h5
        subst e e1 e2
        obtain ⟨g1, g2, _⟩ := O.gb h2
        obtain ⟨k1, k2, _⟩ := O.gb h4
        obtain ⟨l1, l2, _⟩ := O.gb h6
        exact both (me_isi2 (a.ok O y h7).1 g1 g2 k1 k2 t1.boot t1.nn t1.nd l1 l2 t2.boot t2.nn t2.nd (starEach_of h8 _ _)) rfl
    | _ => cases h
  | .isi ty a, S, X, W, O, x, h => by
    cases x with
    | Call fn ys kws p =>
      match fn, ys, kws, h with
      | .Name n p1, [y, .Name z p2], [], h =>
        have h : (decide (n = "isinstance") && T.gb S n && decide (z = ty.n) && T.gb S z && a.ck T S y && notStar y) = true := h
        obtain ⟨h1, h6⟩ := of_and h
        obtain ⟨h1, h5⟩ := of_and h1
        obtain ⟨h1, h4⟩ := of_and h1
        obtain ⟨h1, h3⟩ := of_and h1
        obtain ⟨h1, h2⟩ := of_and h1
        have e : n = "isinstance" := of_decide_eq_true h1
        have e2 : z = ty.n := of_decide_eq_true h3
        subst e
        subst e2
        obtain ⟨g1, g2, _⟩ := O.gb h2
        obtain ⟨k1, k2, _⟩ := O.gb h4
        exact both (me_isi (a.ok O y h5).1 g1 g2 k1 k2 ty.boot ty.nn ty.nd (starEach_of h6 _ _)) rfl
    | _ => cases h
  | .call k es, S, X, W, O, x, h => by
    cases x with
    | Call fn ys kws p =>
      match fn, ys, kws, h with
      | .Name n p1, y :: ys, [], h =>
        have h : (S.mode == 0 && S.gl n && !(n == ("__debug__" : Str)) && (match T.fns[k]? with
          | some p => decide (p.name = n) && decide (p.ar = (y :: ys).length) && p.pin.isNone
          | none => false) && es.ck T S (y :: ys)) = true := h
        obtain ⟨h1, h5⟩ := of_and h
        obtain ⟨h1, h4⟩ := of_and h1
        obtain ⟨h1, h2⟩ := of_and h1
        obtain ⟨h0, h1⟩ := of_and h1
        have h0 : S.mode = 0 := by simpa using h0
        unfold E.den
        cases e : T.fns[k]? with
        | none => rw [e] at h4; cases h4
        | some q =>
          rw [e] at h4
          obtain ⟨h4, h8⟩ := of_and h4
          obtain ⟨h6, h7⟩ := of_and h4
          have e6 : q.name = n := of_decide_eq_true h6
          have e7 : q.ar = (y :: ys).length := of_decide_eq_true h7
          subst e6
          obtain ⟨lv, f, fd, ps, F, hr, hm, hk, hb⟩ := O.call h0 k q e
          have A := es.ok O (y :: ys) h5
          obtain ⟨n, r⟩ := A.ns (pos := p)
          have F := Z.FnOk.plain F h8
          exact both (me_call F hr (O.gl h1) hm hk hb (L2N.passAt O.tk) (by rw [Bool.not_eq_true'] at h2; exact h2) A.args (by rw [e7, A.len]) rfl (starEach_of n _ _) r) rfl
    | _ => cases h
  | .callP k i es, S, X, W, O, x, h => by
    cases x with
    | Call fn ys kws p =>
      match fn, ys, kws, h with
      | .Name n p1, y :: ys, [], h =>
        have h : (S.mode == 0 && S.gl n && !(n == ("__debug__" : Str)) && (match T.fns[k]? with
          | some p => decide (p.name = n) && decide (p.ar = (y :: ys).length) && p.pin.isSome && es.opn (p.pin.getD 0)
          | none => false) && es.ck T S i (y :: ys)) = true := h
        obtain ⟨h1, h5⟩ := of_and h
        obtain ⟨h1, h4⟩ := of_and h1
        obtain ⟨h1, h2⟩ := of_and h1
        obtain ⟨h0, h1⟩ := of_and h1
        have h0 : S.mode = 0 := by simpa using h0
        unfold E.den
        cases e : T.fns[k]? with
        | none => rw [e] at h4; cases h4
        | some q =>
          rw [e] at h4
          obtain ⟨h4, h9⟩ := of_and h4
          obtain ⟨h4, h8⟩ := of_and h4
          obtain ⟨h6, h7⟩ := of_and h4
          have e6 : q.name = n := of_decide_eq_true h6
          have e7 : q.ar = (y :: ys).length := of_decide_eq_true h7
          subst e6
          obtain ⟨lv, f, fd, ps, F, hr, hm, hk, hb⟩ := O.call h0 k q e
          obtain ⟨A, l, st⟩ := es.ok O (y :: ys) h5
          obtain ⟨n1, r⟩ := st.ns (pos := p)
          have F := Z.FnOk.taken F h8
          exact both (me_callP F hr (O.gl h1) hm hk hb (L2N.passAt O.tk) (by rw [Bool.not_eq_true'] at h2; exact h2) A (by rw [e7, l]) (Ps.opens h9) (starEach_of n1 _ _) r) rfl
    | _ => cases h
  | .callB k qq i es, S, X, W, O, x, h => by
    cases x with
    | Call fn ys kws p =>
      match fn, ys, kws, h with
      | .Name n p1, y :: ys, [], h =>
        have h : (S.mode == 0 && S.gl n && !(n == ("__debug__" : Str)) && (match T.fns[k]? with
          | some p => decide (p.name = n) && decide (p.ar = (y :: ys).length) && p.pin.isNone && es.opn qq
          | none => false) && es.ck T S i (y :: ys)) = true := h
        obtain ⟨h1, h5⟩ := of_and h
        obtain ⟨h1, h4⟩ := of_and h1
        obtain ⟨h1, h2⟩ := of_and h1
        obtain ⟨h0, h1⟩ := of_and h1
        have h0 : S.mode = 0 := by simpa using h0
        unfold E.den
        cases e : T.fns[k]? with
        | none => rw [e] at h4; cases h4
        | some q =>
          rw [e] at h4
          obtain ⟨h4, h9⟩ := of_and h4
          obtain ⟨h4, h8⟩ := of_and h4
          obtain ⟨h6, h7⟩ := of_and h4
          have e6 : q.name = n := of_decide_eq_true h6
          have e7 : q.ar = (y :: ys).length := of_decide_eq_true h7
          subst e6
          obtain ⟨lv, f, fd, ps, F, hr, hm, hk, hb⟩ := O.call h0 k q e
          obtain ⟨A, l, st⟩ := es.ok O (y :: ys) h5
          obtain ⟨n1, r⟩ := st.ns (pos := p)
          have F := Z.FnOk.plain F h8
          exact both (me_callB F hr (O.gl h1) hm hk hb (L2N.passAt O.tk) (by rw [Bool.not_eq_true'] at h2; exact h2) A (by rw [e7, l]) rfl (Ps.opens h9) (starEach_of n1 _ _) r) rfl
    | _ => cases h
  | .bad, S, X, W, O, x, h => ⟨me_bad, mt_bad⟩
  | .callN k f, S, X, W, O, x, h => by
    cases x with
    | Call fn ys kws p =>
      match fn, ys, kws, h with
      | .Name n p1, [y], [], h =>
        have h : (S.mode == 0 && S.gl n && !(n == ("__debug__" : Str)) && (match T.fns[k]? with
          | some p => decide (p.name = n) && decide (p.ar = 1) && decide (p.pin = some 0)
          | none => false) && f.ck T S y && notStar y) = true := h
        obtain ⟨h1, h9⟩ := of_and h
        obtain ⟨h1, h5⟩ := of_and h1
        obtain ⟨h1, h4⟩ := of_and h1
        obtain ⟨h1, h2⟩ := of_and h1
        obtain ⟨h0, h1⟩ := of_and h1
        have h0 : S.mode = 0 := by simpa using h0
        unfold E.den
        cases e : T.fns[k]? with
        | none => rw [e] at h4; cases h4
        | some q =>
          rw [e] at h4
          obtain ⟨h4, h8⟩ := of_and h4
          obtain ⟨h6, h7⟩ := of_and h4
          have e6 : q.name = n := of_decide_eq_true h6
          subst e6
          obtain ⟨lv, fa, fd, ps, F, hr, hm, hk, hb⟩ := O.call h0 k q e
          have F := Z.FnOk.taken1 F (of_decide_eq_true h8) (of_decide_eq_true h7)
          exact both (me_callN F hr (O.gl h1) hm hk hb (L2N.passAt O.tk) (by rw [Bool.not_eq_true'] at h2; exact h2) (f.ok O y h5).1 (starEach_of h9 _ _)) rfl
    | _ => cases h
  | .dst a, S, X, W, O, x, h => by
    cases x with
    | Call fn ys kws p =>
      match fn, ys, kws, h with
      | .Name n p1, [.Call (.Name z p2) [y] [] p3], [], h =>
        have h : (S.mode == 0 && decide (n = "len") && T.gb S n && decide (z = "set") && T.gb S z && a.ck T S y && notStar y) = true := h
        obtain ⟨h1, h7⟩ := of_and h
        obtain ⟨h1, h6⟩ := of_and h1
        obtain ⟨h1, h5⟩ := of_and h1
        obtain ⟨h1, h4⟩ := of_and h1
        obtain ⟨h1, h3⟩ := of_and h1
        obtain ⟨h0, h2⟩ := of_and h1
        have h0 : S.mode = 0 := by simpa using h0
        have e : n = "len" := of_decide_eq_true h2
        have e2 : z = "set" := of_decide_eq_true h4
        subst e
        subst e2
        obtain ⟨g1, g2, _⟩ := O.gb h3
        obtain ⟨k1, k2, _⟩ := O.gb h5
        have hu := O.hu
        exact both (me_dst (O.calm h0) (by omega) g1 g2 k1 k2 (a.ok O y h6).1 (starEach_of h7 _ _)) rfl
    | _ => cases h
  | .chn o o' a b c, S, X, W, O, x, h => by
    cases x with
    | Compare y ops zs p =>
      match ops, zs, h with
      | [op, op'], [z, w], h =>
        have h : (decide (op = o.op) && decide (op' = o'.op) && a.ck T S y && b.ck T S z && c.ck T S w && notSet w) = true := h
        obtain ⟨h1, h6⟩ := of_and h
        obtain ⟨h1, h5⟩ := of_and h1
        obtain ⟨h1, h4⟩ := of_and h1
        obtain ⟨h1, h3⟩ := of_and h1
        obtain ⟨h1, h2⟩ := of_and h1
        have e : op = o.op := of_decide_eq_true h1
        have e2 : op' = o'.op := of_decide_eq_true h2
        subst e
        subst e2
        exact me_chn O.hu (a.ok O y h3).1 (b.ok O z h4).1 (c.ok O w h5).1 (last_of h6 _ _ _)
    | _ => cases h
  | .cmpR o a i, S, X, W, O, x, h => by
    cases x with
    | Compare y ops zs p =>
      match ops, zs, h with
      | [op], [.Name n np], h =>
        have h : (decide (op = o.op) && a.ck T S y && S.at i n) = true := h
        obtain ⟨h1, h3⟩ := of_and h
        obtain ⟨h1, h2⟩ := of_and h1
        have e : op = o.op := of_decide_eq_true h1
        subst e
        exact ⟨me_cmpR (opC o O.hu) (a.ok O y h2).1 (O.at h3) (behind_of rfl _), mt_cmpR (opC o O.hu) (a.ok O y h2).1 (O.at h3) (behind_of rfl _)⟩
    | _ => cases h
  | .bitl a, S, X, W, O, x, h => by
    cases x with
    | Call fn ys kws p =>
      match fn, ys, kws, h with
      | .Attribute (.Name n q) m ap, [], [], h =>
        have h : (decide (m = "bit_length") && (ap.endLine == p.line) && a.ck T S (.Name n q)) = true := h
        obtain ⟨h1, h3⟩ := of_and h
        obtain ⟨h1, h2⟩ := of_and h1
        have e : m = "bit_length" := of_decide_eq_true h1
        subst e
        exact both (me_bitl (a.ok O (.Name n q) h3).1 h2) rfl
    | _ => cases h
  | .isE d a, S, X, W, O, x, h => by
    cases x with
    | Call fn ys kws p =>
      match fn, ys, kws, h with
      | .Name n p1, [y, .Name z p2], [], h =>
        have h : (decide (n = "isinstance") && T.gb S n && decide (z = exNm d) && (if d == 15 then T.gb S z else S.gl z) && decide (d ∈ T.qs) && a.ck T S y && notStar y) = true := h
        obtain ⟨h1, h7⟩ := of_and h
        obtain ⟨h1, h6⟩ := of_and h1
        obtain ⟨h1, h5⟩ := of_and h1
        obtain ⟨h1, h4⟩ := of_and h1
        obtain ⟨h1, h3⟩ := of_and h1
        obtain ⟨h1, h2⟩ := of_and h1
        have e : n = "isinstance" := of_decide_eq_true h1
        have e2 : z = exNm d := of_decide_eq_true h3
        subst e
        subst e2
        obtain ⟨g1, g2, _⟩ := O.gb h2
        refine both (un_isE O (of_decide_eq_true h5) (a.ok O y h6).1 g1 g2 ?_ (starEach_of h7 _ _)) rfl
        by_cases hd : d = 15
        · rw [if_pos (by simpa using hd)] at h4
          obtain ⟨k1, k2, _⟩ := O.gb h4
          exact .inl ⟨hd, k1, k2⟩
        · rw [if_neg (by simpa using hd)] at h4
          exact .inr ⟨hd, O.gl h4⟩
    | _ => cases h
  | .call0 k, S, X, W, O, x, h => by
    cases x with
    | Call fn ys kws p =>
      match fn, ys, kws, h with
      | .Name n p1, [], [], h =>
        have h : (S.mode == 0 && S.gl n && !(n == ("__debug__" : Str)) && (match T.fns[k]? with
          | some p => decide (p.name = n) && decide (p.ar = 0) && p.pin.isNone
          | none => false)) = true := h
        obtain ⟨h1, h4⟩ := of_and h
        obtain ⟨h1, h2⟩ := of_and h1
        obtain ⟨h0, h1⟩ := of_and h1
        have h0 : S.mode = 0 := by simpa using h0
        unfold E.den
        cases e : T.fns[k]? with
        | none => rw [e] at h4; cases h4
        | some q =>
          rw [e] at h4
          obtain ⟨h4, h8⟩ := of_and h4
          obtain ⟨h6, h7⟩ := of_and h4
          have e6 : q.name = n := of_decide_eq_true h6
          have e7 : q.ar = 0 := of_decide_eq_true h7
          subst e6
          obtain ⟨lv, f, fd, ps, F, hr, hm, hk, hb⟩ := O.call h0 k q e
          have F := Z.FnOk.plain F h8
          rw [e7] at F
          exact both (me_call0 F hr (O.gl h1) hm hk hb O.tk rfl (by rw [Bool.not_eq_true'] at h2; exact h2)) rfl
    | _ => cases h
  | .dic0, S, X, W, O, x, h => by
    cases x with
    | Dict ks vs p =>
      match ks, vs, h with
      | [], [], h =>
        exact both (PE_imp pe_dnewK fun σ H Q ⟨G, δ, H0, R, q⟩ a ha => PoE.new q R (Gr.new R.hs ha) (.dic (kvs := []) (xs := []) upd_same rfl rfl .nil)) rfl
    | _ => cases h
  | .idx a b, S, X, W, O, x, h => by
    cases x with
    | Subscript y z p =>
      have h : (a.ck T S y && b.ck T S z && notSlice z) = true := h
      obtain ⟨h1, h3⟩ := of_and h
      obtain ⟨h1, h2⟩ := of_and h1
      exact both (me_ix ix_M (a.ok O y h1).1 (b.ok O z h2).1 (plainIx_of h3)) rfl
    | _ => cases h
  | .stp a lo hi st, S, X, W, O, x, h => by
    cases x with
    | Subscript y z p =>
      cases z with
      | Slice l u s p2 =>
        cases s with
        | some s =>
          have h : (a.ck T S y && lo.ck T S l && hi.ck T S u && st.ck T S s) = true := h
          obtain ⟨h1, h4⟩ := of_and h
          obtain ⟨h1, h3⟩ := of_and h1
          obtain ⟨h1, h2⟩ := of_and h1
          exact both (me_stp (a.ok O y h1).1 (lo.ok O l h2).2 (hi.ok O u h3).2 (mp_some (st.ok O s h4).1)) rfl
        | none => cases h
      | _ => cases h
    | _ => cases h
  | .cut a lo hi, S, X, W, O, x, h => by
    cases x with
    | Subscript y z p =>
      cases z with
      | Slice l u st p2 =>
        cases st with
        | none =>
          have h : (a.ck T S y && lo.ck T S l && hi.ck T S u) = true := h
          obtain ⟨h1, h3⟩ := of_and h
          obtain ⟨h1, h2⟩ := of_and h1
          exact both (me_cut (a.ok O y h1).1 (lo.ok O l h2).2 (hi.ok O u h3).2) rfl
        | some _ => cases h
      | _ => cases h
    | _ => cases h
  | .ixO i b, S, X, W, O, x, h => by
    cases x with
    | Subscript y z p =>
      cases y with
      | Name n p1 =>
        have h : (S.at i n && b.ck T S z && notSlice z) = true := h
        obtain ⟨h1, h3⟩ := of_and h
        obtain ⟨h1, h2⟩ := of_and h1
        exact both (me_ixO (O.at h1) (b.ok O z h2).1 (plainIx_of h3)) rfl
      | _ => cases h
    | _ => cases h
  | .cmpB o i b, S, X, W, O, x, h => by
    cases x with
    | Compare y ops zs p =>
      match y, ops, zs, h with
      | .Name n p1, [op], [z], h =>
        have h : (decide (op = o.op) && S.at i n && b.ck T S z && notSet z) = true := h
        obtain ⟨h1, h4⟩ := of_and h
        obtain ⟨h1, h3⟩ := of_and h1
        obtain ⟨h1, h2⟩ := of_and h1
        have e : op = o.op := of_decide_eq_true h1
        subst e
        exact ⟨me_cmpB (opC o O.hu) (O.at h2) (b.ok O z h3).1 (behind_of h4 _), mt_cmpB (opC o O.hu) (O.at h2) (b.ok O z h3).1 (behind_of h4 _)⟩
    | _ => cases h
  | .ind i b, S, X, W, O, x, h => by
    cases x with
    | Call fn ys kws p =>
      match fn, ys, kws, h with
      | .Attribute (.Name n np) m ap, [y], [], h =>
        have h : (S.at i n && decide (m = "index") && (ap.endLine == p.line) && b.ck T S y && notStar y) = true := h
        obtain ⟨h, h5⟩ := of_and h
        obtain ⟨h, h4⟩ := of_and h
        obtain ⟨h, h3⟩ := of_and h
        obtain ⟨h1, h2⟩ := of_and h
        have e2 : m = "index" := of_decide_eq_true h2
        subst e2
        have s := starEach_of h5 [] X.env
        exact both (me_ind O.hu (O.at h1) (b.ok O y h4).1 (by rw [s]; rfl) h3 s) rfl
    | _ => cases h
  | .lenO i, S, X, W, O, x, h => by
    cases x with
    | Call fn ys kws p =>
      match fn, ys, kws, h with
      | .Name z p1, [.Name n p2], [], h =>
        have h : (S.mode == 0 && decide (z = "len") && T.gb S z && S.at i n) = true := h
        obtain ⟨h1, h3⟩ := of_and h
        obtain ⟨h1, h2⟩ := of_and h1
        obtain ⟨h0, h1⟩ := of_and h1
        have h0 : S.mode = 0 := by simpa using h0
        have e : z = "len" := of_decide_eq_true h1
        subst e
        obtain ⟨g1, g2, _⟩ := O.gb h2
        exact both (me_lenO (O.calm h0) (O.at h3) g1 g2) rfl
    | _ => cases h
theorem Op.ok {T : Tab} : ∀ (e : Op) {S : SC} {X : Cx} {W : Wi} (_ : OkX T S X W) (x : Option Expr), e.ck T S x = true → PTs X x.toList (tO X.K W (e.den T)) ∧ PO X x (tP X.K W (dPart (e.den T)))
  | .no, S, X, W, O, x, h => by
    cases x with
    | none => exact ⟨pts_nil, mp_none⟩
    | some x => cases h
  | .so e, S, X, W, O, x, h => by
    cases x with
    | none => cases h
    | some x => exact ⟨pts_one (e.ok O x h).2, mp_some (e.ok O x h).1⟩
theorem Es.ok {T : Tab} : ∀ (e : Es) {S : SC} {X : Cx} {W : Wi} (_ : OkX T S X W) (x : List Expr), e.ck T S x = true → AllG X W x (e.den T)
  | .nil, S, X, W, O, x, h => by
    cases x with
    | nil => exact .nil
    | cons _ _ => cases h
  | .cons e es, S, X, W, O, x, h => by
    cases x with
    | nil => cases h
    | cons x xs =>
      have h : (e.ck T S x && notStar x && es.ck T S xs) = true := h
      obtain ⟨h1, h3⟩ := of_and h
      obtain ⟨h1, h2⟩ := of_and h1
      exact .cons (e.ok O x h1).1 (e.ok O x h1).2 h2 (es.ok O xs h3)
theorem Ps.ok {T : Tab} : ∀ (e : Ps) {S : SC} {X : Cx} {W : Wi} (_ : OkX T S X W) {i : Nat} (x : List Expr), e.ck T S i x = true → PA X x (tAP X.K W i (e.den T)) ∧ x.length = (e.den T).length ∧ NoStar x
  | .nil, S, X, W, O, i, x, h => by
    cases x with
    | nil => exact ⟨map_nil, rfl, .nil⟩
    | cons _ _ => cases h
  | .own es, S, X, W, O, i, x, h => by
    match x, h with
    | .Name n p :: xs, h =>
      have h : (S.at i n && es.ck T S i xs) = true := h
      obtain ⟨h1, h3⟩ := of_and h
      obtain ⟨a, b, c⟩ := es.ok O xs h3
      exact ⟨map_skip (O.at h1) a (starEach_of rfl _ _), congrArg (· + 1) b, .cons rfl c⟩
  | .cons e es, S, X, W, O, i, x, h => by
    cases x with
    | nil => cases h
    | cons x xs =>
      have h : (e.ck T S x && notStar x && es.ck T S i xs) = true := h
      obtain ⟨h1, h3⟩ := of_and h
      obtain ⟨h1, h2⟩ := of_and h1
      obtain ⟨a, b, c⟩ := es.ok O xs h3
      exact ⟨map_cons (e.ok O x h1).1 a (starEach_of h2 _ _), congrArg (· + 1) b, .cons h2 c⟩
theorem F.ok {T : Tab} : ∀ (f : F) {S : SC} {X : Cx} {W : Wi} (_ : OkX T S X W) (x : Expr), f.ck T S x = true → PE X x (tF X.K W (f.den T)) ∧ plainT x = true
  | .add a b, S, X, W, O, x, h => by
    cases x with
    | BinOp y op z p =>
      cases op with
      | Add =>
        have h : (a.ck T S y && b.ck T S z) = true := h
        obtain ⟨h1, h2⟩ := of_and h
        exact ⟨mf_add (a.ok O y h1).1 (b.ok O z h2).1, rfl⟩
      | _ => cases h
    | _ => cases h
  | .rep f n, S, X, W, O, x, h => by
    cases x with
    | BinOp y op z p =>
      cases op with
      | Mult =>
        cases z with
        | Constant c k p2 =>
          cases c with
          | int j =>
            have h : (f.ck T S y && decide (n = j)) = true := h
            obtain ⟨h1, h2⟩ := of_and h
            have e : n = j := of_decide_eq_true h2
            subst e
            exact ⟨mf_rep (f.ok O y h1).1, rfl⟩
          | _ => cases h
        | _ => cases h
      | _ => cases h
    | _ => cases h
  | .list a, S, X, W, O, x, h => by
    cases x with
    | Call fn ys kws p =>
      match fn, ys, kws, h with
      | .Name n p1, [y], [], h =>
        have h : (decide (n = "list") && T.gb S n && a.ck T S y && notStar y) = true := h
        obtain ⟨h1, h4⟩ := of_and h
        obtain ⟨h1, h3⟩ := of_and h1
        obtain ⟨h1, h2⟩ := of_and h1
        have e : n = "list" := of_decide_eq_true h1
        subst e
        obtain ⟨g1, g2, _⟩ := O.gb h2
        exact ⟨mf_list g1 g2 (a.ok O y h3).1 (starEach_of h4 _ _), rfl⟩
    | _ => cases h
  | .call k es, S, X, W, O, x, h => by
    cases x with
    | Call fn ys kws p =>
      match fn, ys, kws, h with
      | .Name n p1, y :: ys, [], h =>
        have h : (S.mode == 0 && S.gl n && !(n == ("__debug__" : Str)) && (match T.fns[k]? with
          | some p => decide (p.name = n) && decide (p.ar = (y :: ys).length) && p.pin.isNone
          | none => false) && es.ck T S (y :: ys)) = true := h
        obtain ⟨h1, h5⟩ := of_and h
        obtain ⟨h1, h4⟩ := of_and h1
        obtain ⟨h1, h2⟩ := of_and h1
        obtain ⟨h0, h1⟩ := of_and h1
        have h0 : S.mode = 0 := by simpa using h0
        unfold F.den
        cases e : T.fns[k]? with
        | none => rw [e] at h4; cases h4
        | some q =>
          rw [e] at h4
          obtain ⟨h4, h8⟩ := of_and h4
          obtain ⟨h6, h7⟩ := of_and h4
          have e6 : q.name = n := of_decide_eq_true h6
          have e7 : q.ar = (y :: ys).length := of_decide_eq_true h7
          subst e6
          obtain ⟨lv, f, fd, ps, F, hr, hm, hk, hb⟩ := O.call h0 k q e
          have A := es.ok O (y :: ys) h5
          obtain ⟨n, r⟩ := A.ns (pos := p)
          have F := Z.FnOk.plain F h8
          exact ⟨mf_call F hr (O.gl h1) hm hk hb (L2N.passAt O.tk) (by rw [Bool.not_eq_true'] at h2; exact h2) A.args (by rw [e7, A.len]) rfl (starEach_of n _ _) r, rfl⟩
    | _ => cases h
  | .callP k i es, S, X, W, O, x, h => by
    cases x with
    | Call fn ys kws p =>
      match fn, ys, kws, h with
      | .Name n p1, y :: ys, [], h =>
        have h : (S.mode == 0 && S.gl n && !(n == ("__debug__" : Str)) && (match T.fns[k]? with
          | some p => decide (p.name = n) && decide (p.ar = (y :: ys).length) && p.pin.isSome && es.opn (p.pin.getD 0)
          | none => false) && es.ck T S i (y :: ys)) = true := h
        obtain ⟨h1, h5⟩ := of_and h
        obtain ⟨h1, h4⟩ := of_and h1
        obtain ⟨h1, h2⟩ := of_and h1
        obtain ⟨h0, h1⟩ := of_and h1
        have h0 : S.mode = 0 := by simpa using h0
        unfold F.den
        cases e : T.fns[k]? with
        | none => rw [e] at h4; cases h4
        | some q =>
          rw [e] at h4
          obtain ⟨h4, h9⟩ := of_and h4
          obtain ⟨h4, h8⟩ := of_and h4
          obtain ⟨h6, h7⟩ := of_and h4
          have e6 : q.name = n := of_decide_eq_true h6
          have e7 : q.ar = (y :: ys).length := of_decide_eq_true h7
          subst e6
          obtain ⟨lv, f, fd, ps, F, hr, hm, hk, hb⟩ := O.call h0 k q e
          obtain ⟨A, l, st⟩ := es.ok O (y :: ys) h5
          obtain ⟨n1, r⟩ := st.ns (pos := p)
          have F := Z.FnOk.taken F h8
          exact ⟨mf_callP F hr (O.gl h1) hm hk hb (L2N.passAt O.tk) (by rw [Bool.not_eq_true'] at h2; exact h2) A (by rw [e7, l]) (Ps.opens h9) (starEach_of n1 _ _) r, rfl⟩
    | _ => cases h
  | .callN k f, S, X, W, O, x, h => by
    cases x with
    | Call fn ys kws p =>
      match fn, ys, kws, h with
      | .Name n p1, [y], [], h =>
        have h : (S.mode == 0 && S.gl n && !(n == ("__debug__" : Str)) && (match T.fns[k]? with
          | some p => decide (p.name = n) && decide (p.ar = 1) && decide (p.pin = some 0)
          | none => false) && f.ck T S y && notStar y) = true := h
        obtain ⟨h1, h9⟩ := of_and h
        obtain ⟨h1, h5⟩ := of_and h1
        obtain ⟨h1, h4⟩ := of_and h1
        obtain ⟨h1, h2⟩ := of_and h1
        obtain ⟨h0, h1⟩ := of_and h1
        have h0 : S.mode = 0 := by simpa using h0
        unfold F.den
        cases e : T.fns[k]? with
        | none => rw [e] at h4; cases h4
        | some q =>
          rw [e] at h4
          obtain ⟨h4, h8⟩ := of_and h4
          obtain ⟨h6, h7⟩ := of_and h4
          have e6 : q.name = n := of_decide_eq_true h6
          subst e6
          obtain ⟨lv, fa, fd, ps, F, hr, hm, hk, hb⟩ := O.call h0 k q e
          have F := Z.FnOk.taken1 F (of_decide_eq_true h8) (of_decide_eq_true h7)
          exact ⟨mf_callN F hr (O.gl h1) hm hk hb (L2N.passAt O.tk) (by rw [Bool.not_eq_true'] at h2; exact h2) (f.ok O y h5).1 (starEach_of h9 _ _), rfl⟩
    | _ => cases h
  | .dct a, S, X, W, O, x, h => by
    cases x with
    | Call fn ys kws p =>
      match fn, ys, kws, h with
      | .Name n p1, [y], [], h =>
        have h : (S.mode == 0 && decide (n = "dict") && T.gb S n && a.ck T S y && notStar y) = true := h
        obtain ⟨h1, h4⟩ := of_and h
        obtain ⟨h1, h3⟩ := of_and h1
        obtain ⟨h1, h2⟩ := of_and h1
        obtain ⟨h0, h1⟩ := of_and h1
        have h0 : S.mode = 0 := by simpa using h0
        have e : n = "dict" := of_decide_eq_true h1
        subst e
        obtain ⟨g1, g2, _⟩ := O.gb h2
        exact ⟨mf_dct (O.calm h0) g1 g2 (a.ok O y h3).1 (starEach_of h4 _ _), rfl⟩
    | _ => cases h
  | .dsp ks vs, S, X, W, O, x, h => by
    cases x with
    | Dict keys values p =>
      have h : (keys.all (·.isSome) && ks.ck T S (keys.filterMap id) && vs.ck T S values && decide (keys.length = values.length) && !keys.isEmpty && decide (keys.length ≤ 15)) = true := h
      obtain ⟨h, h6⟩ := of_and h
      obtain ⟨h, h5⟩ := of_and h
      obtain ⟨h, h4⟩ := of_and h
      obtain ⟨h, h3⟩ := of_and h
      obtain ⟨h1, h2⟩ := of_and h
      have A := ks.ok O _ h2
      have B := vs.ok O _ h3
      have e := keys_some h1
      have l : keys.length = values.length := of_decide_eq_true h4
      have l2 : (keys.filterMap id).length = keys.length := by
        conv => rhs; rw [e]
        rw [List.length_map]
      have P := AllG.pairs (pos := p) A B (by rw [l2, l])
      rw [← e] at P
      refine ⟨mf_dsp P h1 l (fun z => by subst z; cases h5) (of_decide_eq_true h6) ?_, rfl⟩
      show keys.length = ((ks.den T).zip (vs.den T)).length
      rw [List.length_zip, ← A.len, ← B.len, l2, l, Nat.min_self]
    | _ => cases h
  | .lst es, S, X, W, O, x, h => by
    cases x with
    | List xs p => exact ⟨mf_lst (es.ok O xs h).args, rfl⟩
    | _ => cases h
  | .cut a lo hi, S, X, W, O, x, h => by
    cases x with
    | Subscript y z p =>
      cases z with
      | Slice l u st p2 =>
        cases st with
        | none =>
          have h : (a.ck T S y && lo.ck T S l && hi.ck T S u) = true := h
          obtain ⟨h1, h3⟩ := of_and h
          obtain ⟨h1, h2⟩ := of_and h1
          exact ⟨mf_cut (a.ok O y h1).1 (lo.ok O l h2).2 (hi.ok O u h3).2, rfl⟩
        | some _ => cases h
      | _ => cases h
    | _ => cases h
  | .stp a lo hi st, S, X, W, O, x, h => by
    cases x with
    | Subscript y z p =>
      cases z with
      | Slice l u s p2 =>
        cases s with
        | some s =>
          have h : (a.ck T S y && lo.ck T S l && hi.ck T S u && st.ck T S s) = true := h
          obtain ⟨h1, h4⟩ := of_and h
          obtain ⟨h1, h3⟩ := of_and h1
          obtain ⟨h1, h2⟩ := of_and h1
          exact ⟨mf_stp (a.ok O y h1).1 (lo.ok O l h2).2 (hi.ok O u h3).2 (mp_some (st.ok O s h4).1), rfl⟩
        | none => cases h
      | _ => cases h
    | _ => cases h
  | .comp elt vs tg it t, S, X, W, O, x, h => by
    obtain ⟨y, z, ifs, scope, p, x1, rfl, C, wi⟩ := compOk_of (fun O x h => (elt.ok O x h).1) (fun O tg x h h' => it.ok O x h h') (fun O x h => (t.ok O x h).1) O x h
    have e : (ownOf S vs).map (·.2) = vs := by
      unfold ownOf
      rw [List.map_map]
      exact List.map_id' _
    by_cases h0 : S.mode = 0
    · have m := mf_compI (pos := p) (O.calm h0) O.nd C wi
      rw [e] at m
      exact ⟨m, rfl⟩
    · have hm : it.md S.mode = true := by
        have h : (it.md S.mode && (S.mode == 0 || tg.isVar) && it.ck T S z && notSet z && blkS S scope (ownOf S vs) && tg.slots.all (fun j => decide (j ∈ vs)) && it.tgk y &&
          tg.ck (fun i n => decide (S.N[i]? = some n) && (decide ((S.inner scope).names.lookup n = some .local) || (decide ((S.inner scope).names.lookup n = some .cell) && decide (scope.names.lookup n = some .cell)))) y && elt.ck T (S.inner scope) x1 && decide (ifs.length ≤ 1) && t.ck T (S.inner scope) ifs.head?) = true := h
        simp only [Bool.and_eq_true] at h
        exact h.1.1.1.1.1.1.1.1.1.1
      have hk : it.ck T S z = true := by
        have h : (it.md S.mode && (S.mode == 0 || tg.isVar) && it.ck T S z && notSet z && blkS S scope (ownOf S vs) && tg.slots.all (fun j => decide (j ∈ vs)) && it.tgk y &&
          tg.ck (fun i n => decide (S.N[i]? = some n) && (decide ((S.inner scope).names.lookup n = some .local) || (decide ((S.inner scope).names.lookup n = some .cell) && decide (scope.names.lookup n = some .cell)))) y && elt.ck T (S.inner scope) x1 && decide (ifs.length ≤ 1) && t.ck T (S.inner scope) ifs.head?) = true := h
        simp only [Bool.and_eq_true] at h
        exact h.1.1.1.1.1.1.1.1.2
      obtain ⟨a, rfl, h1⟩ := md_hot hm h0
      obtain ⟨p1, y1, p2, rfl, g1, g2, A, st⟩ := rng_hot (fun O x h => (a.ok O x h).1) O hk
      have m : PE X (.ListComp x1 [⟨y, .Call (.Name "range" p1) [y1] [] p2, ifs, 0⟩] scope p) (tF X.K W (fComp (iRng [a.den T]) tg.st (t.den T) (elt.den T) ((ownOf S vs).map (·.2)))) := PE_imp (pe_lcT (O.hot h1) O.nd g1 g2 A st C.ok C.tg C.tt C.el) fun σ H Q q => rng1_read (comp_read C.hv q)
      rw [e] at m
      exact ⟨m, rfl⟩
theorem I.ok {T : Tab} : ∀ (i : I) {S : SC} {X : Cx} {W : Wi} (_ : OkX T S X W) {tg : Expr} (x : Expr), i.ck T S x = true → i.tgk tg = true → PI X tg x (tI X.K W (i.den T))
  | .seq e, S, X, W, O, tg, x, h, _ => mi_seq (e.ok O x h).1
  | .own i, S, X, W, O, tg, x, h, _ => by
    cases x with
    | Name n p => exact mi_seq (me_var (O.at h))
    | _ => cases h
  | .zip a b, S, X, W, O, tg, x, h, ht => by
    cases x with
    | Call fn ys kws p =>
      match fn, ys, kws, h with
      | .Name n p1, [y, z], [], h =>
        have h : (decide (n = "zip") && T.gb S n && a.ck T S y && notStar y && b.ck T S z && notStar z) = true := h
        obtain ⟨h1, h6⟩ := of_and h
        obtain ⟨h1, h5⟩ := of_and h1
        obtain ⟨h1, h4⟩ := of_and h1
        obtain ⟨h1, h3⟩ := of_and h1
        obtain ⟨h1, h2⟩ := of_and h1
        have e : n = "zip" := of_decide_eq_true h1
        subst e
        obtain ⟨g1, g2, _⟩ := O.gb h2
        have s := starEach_of h4 [z] X.env
        have s2 := starEach_of h6 [] X.env
        cases tg with
        | Tuple ts k p2 => exact mi_zip g1 g2 (ma_cons (a.ok O y h3).1 (ma_cons (b.ok O z h5).1 ma_nil s2) s) s s2
        | _ => cases ht
    | _ => cases h
  | .enum a, S, X, W, O, tg, x, h, ht => by
    cases x with
    | Call fn ys kws p =>
      match fn, ys, kws, h with
      | .Name n p1, [y], [], h =>
        have h : (decide (n = "enumerate") && T.gb S n && a.ck T S y && notStar y) = true := h
        obtain ⟨h1, h4⟩ := of_and h
        obtain ⟨h1, h3⟩ := of_and h1
        obtain ⟨h1, h2⟩ := of_and h1
        have e : n = "enumerate" := of_decide_eq_true h1
        subst e
        obtain ⟨g1, g2, _⟩ := O.gb h2
        have s := starEach_of h4 [] X.env
        cases tg with
        | Tuple ts k p2 => exact mi_enum g1 g2 (ma_cons (a.ok O y h3).1 ma_nil s) s
        | _ => cases ht
    | _ => cases h
  | .rng1 a, S, X, W, O, tg, x, h, _ => by
    cases x with
    | Call fn ys kws p =>
      match fn, ys, kws, h with
      | .Name n p1, [y], [], h =>
        have h : (decide (n = "range") && T.gb S n && a.ck T S y && notStar y) = true := h
        obtain ⟨h1, h4⟩ := of_and h
        obtain ⟨h1, h3⟩ := of_and h1
        obtain ⟨h1, h2⟩ := of_and h1
        have e : n = "range" := of_decide_eq_true h1
        subst e
        obtain ⟨g1, g2, _⟩ := O.gb h2
        have s := starEach_of h4 [] X.env
        exact mi_rng1 g1 g2 (ma_cons (a.ok O y h3).1 ma_nil s) s
    | _ => cases h
  | .rng3 a b c, S, X, W, O, tg, x, h, _ => by
    cases x with
    | Call fn ys kws p =>
      match fn, ys, kws, h with
      | .Name n p1, [y, z, w], [], h =>
        have h : (decide (n = "range") && T.gb S n && a.ck T S y && notStar y && b.ck T S z && notStar z && c.ck T S w && notStar w) = true := h
        obtain ⟨h1, h8⟩ := of_and h
        obtain ⟨h1, h7⟩ := of_and h1
        obtain ⟨h1, h6⟩ := of_and h1
        obtain ⟨h1, h5⟩ := of_and h1
        obtain ⟨h1, h4⟩ := of_and h1
        obtain ⟨h1, h3⟩ := of_and h1
        obtain ⟨h1, h2⟩ := of_and h1
        have e : n = "range" := of_decide_eq_true h1
        subst e
        obtain ⟨g1, g2, _⟩ := O.gb h2
        have s := starEach_of h4 [z, w] X.env
        have s2 := starEach_of h6 [w] X.env
        have s3 := starEach_of h8 [] X.env
        exact mi_rng3 g1 g2 (ma_cons (a.ok O y h3).1 (ma_cons (b.ok O z h5).1 (ma_cons (c.ok O w h7).1 ma_nil s3) s2) s) s (by rw [s2, s3]; rfl)
    | _ => cases h
  | .rng2 a b, S, X, W, O, tg, x, h, _ => by
    cases x with
    | Call fn ys kws p =>
      match fn, ys, kws, h with
      | .Name n p1, [y, z], [], h =>
        have h : (decide (n = "range") && T.gb S n && a.ck T S y && notStar y && b.ck T S z && notStar z) = true := h
        obtain ⟨h1, h6⟩ := of_and h
        obtain ⟨h1, h5⟩ := of_and h1
        obtain ⟨h1, h4⟩ := of_and h1
        obtain ⟨h1, h3⟩ := of_and h1
        obtain ⟨h1, h2⟩ := of_and h1
        have e : n = "range" := of_decide_eq_true h1
        subst e
        obtain ⟨g1, g2, _⟩ := O.gb h2
        have s := starEach_of h4 [z] X.env
        have s2 := starEach_of h6 [] X.env
        exact mi_rng2 g1 g2 (ma_cons (a.ok O y h3).1 (ma_cons (b.ok O z h5).1 ma_nil s2) s) (by rw [s, s2]; rfl) s2
    | _ => cases h
end
end Z

namespace Z
open PySem PySem.Spec PyProof.Rows L2
mutual
inductive S where
  | asg (tg : Tg) (e : E) | par (i j : Nat) (a b : E) | own (i : Nat) (f : F)
  | exp (e : E) | app (i : Nat) (e : E) | sub (i : Nat) (ix e : E) | aug (o : Bool) (i : Nat) (e : E)
  | ret (e : E) | retN | ifs (c : E) (a b : Ss) | whl (ws : List Nat) (n : En → Nat) (c : E) (b : Ss) | for (ws : List Nat) (tg : Tg) (it : I) (b : Ss)
  | pass | brk | cnt | retF (f : F) | retO (i : Nat) | bad | ext (i : Nat) (f : F) | ins (i : Nat) (ix e : E) | augI (o : Bool) (i : Nat) (ix e : E) | par3 (i j l : Nat) (a b c : E)
  | raise (c : Nat) | tryA (b : Ss) (c i : Nat) (u : Su) | tryN (b : Ss) (hs : Hs)
inductive Ss where
  | nil | cons (s : S) (ss : Ss)
/-- the suite of except X as e; retH: return f(e, ..); asgH: x = f(e, ..); rtnH: return (None, f(e, ..)) -/
inductive Su where
  | ss (ss : Ss) | retH (k : Nat) (es : Es) | asgH (j k : Nat) (es : Es) | rtnH (k : Nat) (es : Es)
inductive Hs where
  | nil | cons (c : Nat) (ss : Ss) (hs : Hs)
end
/-! ### exceptions: their meaning -/
def sRaise (c : Nat) : SDen := fun δ => .rz ⟨c, []⟩ δ
def clrS (i : Nat) (δ : En) (k : En → RS) : RS :=
  match δ[i]? with
  | some (.pi _) => .bad
  | _ => k (δ.set i .no)
/-- behind the suite its name is gone -/
def catchS (i : Nat) (r : RS) : RS :=
  match r with
  | .nx δ => clrS i δ .nx
  | .bk δ => clrS i δ .bk
  | .ct δ => clrS i δ .ct
  | .rt d δ => .rt d δ
  | .ro o δ => .ro o δ
  | _ => .bad
def setX (i c : Nat) (δ : En) (k : En → RS) : RS :=
  match δ[i]? with
  | none => .bad
  | some (.pi _) => .bad
  | some _ => k (δ.set i (.va (.exc c)))
def tryA1 (rs : List Nat) (c i : Nat) (fu : SDen) (e : Exc) (δ : En) : RS :=
  if e.pl.isEmpty && rs.contains e.c then (if subE e.c c then setX i e.c δ fun δ1 => catchS i (fu δ1) else .rz e δ) else .bad
def sTryA (rs : List Nat) (fb : SDen) (c i : Nat) (fu : SDen) : SDen := fun δ =>
  match fb δ with
  | .rz e δ1 => tryA1 rs c i fu e δ1
  | r => r
def noRz (r : RS) : RS :=
  match r with
  | .rz _ _ => .bad
  | r => r
def pickH (e : Exc) (δ : En) : List (Nat × SDen) → RS
  | [] => .rz e δ
  | (c, f) :: r => if subE e.c c then noRz (f δ) else pickH e δ r
def tryN1 (rs : List Nat) (hs : List (Nat × SDen)) (e : Exc) (δ : En) : RS := if e.pl.isEmpty && rs.contains e.c then pickH e δ hs else .bad
def sTryN (rs : List Nat) (fb : SDen) (hs : List (Nat × SDen)) : SDen := fun δ =>
  match fb δ with
  | .rz e δ1 => tryN1 rs hs e δ1
  | r => r
/-- f(e, ..): e in slot i -/
def hotL (g : List D → RD) (i : Nat) (fs : List Den) (δ : En) (s : Option Sl) : RE :=
  match s with
  | some (.va (.exc c)) => bindA (dArgs fs δ) fun ds δ1 => ofD (g (.exc c :: ds)) δ1
  | _ => .bad
def dCallT (g : List D → RD) (i : Nat) (fs : List Den) : Den := fun δ => hotL g i fs δ δ[i]?
def hfn (T : Tab) (k : Nat) : List D → RD := match T.hfns[k]? with
  | some p => p.sem
  | none => fun _ => .bad
mutual
def S.den (T : Tab) : S → SDen
  | .asg tg e => sAsg tg.st (e.den T)
  | .par i j a b => sPar i j [a.den T, b.den T]
  | .own i f => sOwn i (f.den T)
  | .exp e => sExp (e.den T)
  | .app i e => sApp i (e.den T)
  | .ext i f => sExt i (f.den T)
  | .par3 i j l a b c => sPar3 i j l [a.den T, b.den T, c.den T]
  | .ins i ix e => sIns i (ix.den T) (e.den T)
  | .augI o i ix e => sAugI o i (ix.den T) (e.den T)
  | .sub i ix e => sSub i (ix.den T) (e.den T)
  | .aug o i e => sAug i o (e.den T)
  | .ret e => sRet (e.den T)
  | .retN => sRetN
  | .ifs c a b => sIf (c.den T) (a.den T) (b.den T)
  | .whl ws n c b => sWhl ws n (c.den T) (b.den T)
  | .for ws tg it b => sFor ws (it.den T) tg.st (b.den T)
  | .pass => sPass
  | .brk => sBrk
  | .cnt => sCnt
  | .retF f => sRetF (f.den T)
  | .retO i => sRetO i
  | .bad => sBad
  | .raise c => sRaise c
  | .tryA b c i u => sTryA T.rs (b.den T) c i (u.den T i)
  | .tryN b hs => sTryN T.rs (b.den T) (hs.den T)
def Ss.den (T : Tab) : Ss → SDen
  | .nil => sNil
  | .cons s ss => sSeq (s.den T) (ss.den T)
def Su.den (T : Tab) (i : Nat) : Su → SDen
  | .ss ss => ss.den T
  | .retH k es => sRet (dCallT (hfn T k) i (es.den T))
  | .asgH j k es => sAsg (Tg.st (.var j)) (dCallT (hfn T k) i (es.den T))
  | .rtnH k es => sRet (dTup [dCst .non, dCallT (hfn T k) i (es.den T)])
def Hs.den (T : Tab) : Hs → List (Nat × SDen)
  | .nil => []
  | .cons c ss hs => (c, ss.den T) :: hs.den T
end
/-! ### which stores go the other way about -/
def localNames (S : SC) (line : Nat) (ts : List Expr) : List Str := ts.filterMap fun
  | .Name id pos => if S.names.lookup id == some .local && pos.line == line then some id else none
  | _ => none
/-- the tuple's stores are in order: some target is no plain local of the line -/
def inOrder (S : SC) : Expr → Expr → Bool
  | .Tuple ts _ _, .Tuple vs _ _ => !((ts.length == 2 || ts.length == 3) && vs.length == ts.length) || !((localNames S ((ts.head?.map (·.pos.line)).getD 0) ts).length == ts.length)
  | .List _ _, _ => false
  | _, _ => true
def isComp : Expr → Bool
  | .ListComp .. => true
  | _ => false
def asgT (t x : Expr) : Bool :=
  match t with
  | .Name _ _ => notComp x || isComp x
  | .Tuple .. => true
  | _ => false
theorem swSole {t x : Expr} {l : Nat} {env : Env} (h : notComp x = true) : swapsWithSole [t] x l env = pure false := swaps_of h _ _ _
/-! ### forms of statements -/
def getRaise : Stmt → Option (Str × Str × Pos × Nat × Pos × Pos × Pos)
  | .Raise (some (.Call (.Name x px) [.Constant (.str m) j p2] [] p3)) none p => some (x, m, px, j, p2, p3, p)
  | _ => none
theorem getRaise_eq {s : Stmt} {x m : Str} {px p2 p3 p : Pos} {j : Nat} (h : getRaise s = some (x, m, px, j, p2, p3, p)) : s = .Raise (some (.Call (.Name x px) [.Constant (.str m) j p2] [] p3)) none p := by
  unfold getRaise at h
  split at h
  · cases h; rfl
  · cases h
def getTryA : Stmt → Option (List Stmt × Str × Pos × Str × Stmt × List Stmt × Pos × Pos)
  | .Try body [.ExceptHandler (some (.Name x px)) (some n) (s0 :: suite) p2] [] [] p => some (body, x, px, n, s0, suite, p2, p)
  | _ => none
theorem getTryA_eq {s s0 : Stmt} {body suite : List Stmt} {x n : Str} {px p2 p : Pos} (h : getTryA s = some (body, x, px, n, s0, suite, p2, p)) : s = .Try body [.ExceptHandler (some (.Name x px)) (some n) (s0 :: suite) p2] [] [] p := by
  unfold getTryA at h
  split at h
  · cases h; rfl
  · cases h
def getTryN : Stmt → Option (List Stmt × ExceptHandler × List ExceptHandler × Pos)
  | .Try body (h0 :: hds) [] [] p => some (body, h0, hds, p)
  | _ => none
theorem getTryN_eq {s : Stmt} {body : List Stmt} {h0 : ExceptHandler} {hds : List ExceptHandler} {p : Pos} (h : getTryN s = some (body, h0, hds, p)) : s = .Try body (h0 :: hds) [] [] p := by
  unfold getTryN at h
  split at h
  · cases h; rfl
  · cases h
def getH : ExceptHandler → Option (Str × Pos × Stmt × List Stmt × Pos)
  | .ExceptHandler (some (.Name x px)) none (s0 :: suite) p => some (x, px, s0, suite, p)
  | _ => none
theorem getH_eq {s : ExceptHandler} {s0 : Stmt} {suite : List Stmt} {x : Str} {px p : Pos} (h : getH s = some (x, px, s0, suite, p)) : s = .ExceptHandler (some (.Name x px)) none (s0 :: suite) p := by
  unfold getH at h
  split at h
  · cases h; rfl
  · cases h
def getHot : Expr → Option (Str × Pos × Str × Pos × List Expr × Pos)
  | .Call (.Name x px) (.Name y py :: ys) [] p => some (x, px, y, py, ys, p)
  | _ => none
theorem getHot_eq {s : Expr} {x y : Str} {px py p : Pos} {ys : List Expr} (h : getHot s = some (x, px, y, py, ys, p)) : s = .Call (.Name x px) (.Name y py :: ys) [] p := by
  unfold getHot at h
  split at h
  · cases h; rfl
  · cases h
def getRet1 : List Stmt → Option (Expr × Pos)
  | [.Return (some e) p] => some (e, p)
  | _ => none
theorem getRet1_eq {s : List Stmt} {e : Expr} {p : Pos} (h : getRet1 s = some (e, p)) : s = [.Return (some e) p] := by
  unfold getRet1 at h
  split at h
  · cases h; rfl
  · cases h
def getAsg1 : List Stmt → Option (Str × Pos × Expr × Pos)
  | [.Assign [.Name n np] e p] => some (n, np, e, p)
  | _ => none
theorem getAsg1_eq {s : List Stmt} {n : Str} {e : Expr} {np p : Pos} (h : getAsg1 s = some (n, np, e, p)) : s = [.Assign [.Name n np] e p] := by
  unfold getAsg1 at h
  split at h
  · cases h; rfl
  · cases h
def getRtn1 : List Stmt → Option (Nat × Pos × Expr × Nat × Pos × Pos)
  | [.Return (some (.Tuple [.Constant .none j2 p2, e] k2 p3)) p] => some (j2, p2, e, k2, p3, p)
  | _ => none
theorem getRtn1_eq {s : List Stmt} {e : Expr} {j2 k2 : Nat} {p2 p3 p : Pos} (h : getRtn1 s = some (j2, p2, e, k2, p3, p)) : s = [.Return (some (.Tuple [.Constant .none j2 p2, e] k2 p3)) p] := by
  unfold getRtn1 at h
  split at h
  · cases h; rfl
  · cases h
def SC.suite (S : SC) : SC := { S with mode := 2 }
def hotCk (T : Tab) (S : SC) (i k : Nat) (es : Es) (e : Expr) : Bool :=
  match getHot e with
  | some (x, _, y, _, ys, _) => S.gl x && !(x == ("__debug__" : Str)) && S.at i y && (match T.hfns[k]? with
    | some p => decide (p.name = x) && decide (p.ar = ys.length + 1) && p.pin.isNone
    | none => false) && es.ck T S ys
  | none => false
def clsCk (T : Tab) (S : SC) (c : Nat) (x : Str) : Bool := decide (x = exNm c) && S.gl x && decide (c ∈ T.qs) && !(c == 15)
mutual
def S.ck (T : Tab) (S : SC) : Z.S → Stmt → Bool
  | .asg tg e, .Assign [t] x _ => (S.mode == 0 || (tg.isVar && notComp x)) && tg.ck S.st t && e.ck T S x && inOrder S t x && notStar t && asgT t x
  | .raise c, x => (match getRaise x with
    | some (x, _) => S.mode == 0 && decide (x = exNm c) && S.gl x && decide (c ∈ T.rs)
    | none => false)
  | .tryA b c i u, x => (match getTryA x with
    | some (body, x, _, n, s0, suite, _) => S.mode == 0 && b.ck T S body && clsCk T S c x && decide (S.N[i]? = some n) && decide (S.names.lookup n = some .local) && u.ck T S.suite i (s0 :: suite)
    | none => false)
  | .tryN b hs, x => (match getTryN x with
    | some (body, h0, hds, _) => S.mode == 0 && b.ck T S body && hs.ck T S (h0 :: hds)
    | none => false)
  | .par i j a b, .Assign [.Tuple [.Name x px, .Name y py] _ _] (.Tuple [u, v] _ _) _ => S.mode == 0 && decide (S.N[i]? = some x) && decide (S.N[j]? = some y) && decide (i ≠ j) && decide (S.names.lookup x = some .local) && decide (S.names.lookup y = some .local) &&
      (px.line == py.line) && a.ck T S u && b.ck T S v && notStar u && notStar v && !(foldedForSure 8 u && foldedForSure 8 v) && !(constantsAlone 8 u && constantsAlone 8 v)
  | .par3 i j l a b c, .Assign [.Tuple [.Name x px, .Name y py, .Name z pz] _ _] (.Tuple [u, v, w] _ _) _ => S.mode == 0 && decide (S.N[i]? = some x) && decide (S.N[j]? = some y) && decide (S.N[l]? = some z) && decide (i ≠ j) && decide (i ≠ l) && decide (j ≠ l) &&
      decide (S.names.lookup x = some .local) && decide (S.names.lookup y = some .local) && decide (S.names.lookup z = some .local) && (px.line == py.line) && (px.line == pz.line) && a.ck T S u && b.ck T S v && c.ck T S w && notStar u && notStar v && notStar w &&
      !(foldedForSure 8 u && (foldedForSure 8 v && foldedForSure 8 w)) && !(constantsAlone 8 u && (constantsAlone 8 v && constantsAlone 8 w))
  | .own i f, .Assign [.Name n p] x _ => S.st i n && f.ck T S x && (notComp x || (S.mode == 0 && isComp x))
  | .exp e, .Expr x _ => e.ck T S x && notComp x
  | .ext i f, .Expr (.Call (.Attribute (.Name n _) m ap) [x] [] cp) _ => S.at i n && decide (m = "extend") && (ap.endLine == cp.line) && f.ck T S x && notStar x
  | .ins i ix e, .Expr (.Call (.Attribute (.Name n _) m ap) [y, x] [] cp) _ => S.at i n && decide (m = "insert") && (ap.endLine == cp.line) && ix.ck T S y && notStar y && e.ck T S x && notStar x
  | .augI o i ix e, .AugAssign (.Subscript (.Name n _) y _) op x _ => S.at i n && ix.ck T S y && notSlice y && decide (op = augOp o) && e.ck T S x
  | .app i e, .Expr (.Call (.Attribute (.Name n _) m ap) [x] [] cp) _ => S.at i n && decide (m = "append") && (ap.endLine == cp.line) && e.ck T S x && notStar x
  | .sub i ix e, .Assign [.Subscript (.Name n _) y _] x _ => S.at i n && ix.ck T S y && notSlice y && e.ck T S x && notComp x
  | .aug o i e, .AugAssign (.Name n _) op x _ => S.st i n && decide (op = augOp o) && e.ck T S x
  | .ret e, .Return (some x) _ => e.ck T S x
  | .retN, .Return none _ => true
  | .ifs c a b, .If x xs ys _ => c.ck T S x && a.ck T S xs && b.ck T S ys
  | .whl _ _ c b, .While x xs [] _ => S.mode == 0 && c.ck T S x && b.ck T S xs
  | .for _ tg it b, .For t x xs [] _ => S.mode == 0 && tg.ck S.st t && it.ck T S x && it.tgk t && notSet x && b.ck T S xs
  | .pass, .Pass _ => true
  | .brk, .Break _ => true
  | .cnt, .Continue _ => true
  | .retF f, .Return (some x) _ => f.ck T S x
  | .retO i, .Return (some (.Name n _)) _ => S.at i n
  | .bad, _ => true
  | _, _ => false
def Ss.ck (T : Tab) (S : SC) : Ss → List Stmt → Bool
  | .nil, [] => true
  | .cons s ss, x :: xs => s.ck T S x && ss.ck T S xs
  | _, _ => false
def Su.ck (T : Tab) (S : SC) (i : Nat) : Su → List Stmt → Bool
  | .ss ss, xs => ss.ck T S xs
  | .retH k es, xs => (match getRet1 xs with
    | some (e, _) => hotCk T S i k es e
    | none => false)
  | .asgH j k es, xs => (match getAsg1 xs with
    | some (n, _, e, _) => S.st j n && hotCk T S i k es e
    | none => false)
  | .rtnH k es, xs => (match getRtn1 xs with
    | some (_, _, e, _) => hotCk T S i k es e
    | none => false)
def Hs.ck (T : Tab) (S : SC) : Hs → List ExceptHandler → Bool
  | .nil, [] => true
  | .cons c ss hs, h :: r => (match getH h with
    | some (x, _, s0, suite, _) => clsCk T S c x && ss.ck T S.suite (s0 :: suite)
    | none => false) && hs.ck T S r
  | _, _ => false
end
structure OkS (T : Tab) (S : SC) (X : Cx) (W : Wi) : Prop extends OkX T S X W where
  ps : PassesOwn (model X.prog X.w) X.A X.env X.xe
  fn : ∀ x, X.fn x = true
  ex : X.ex = []
  stk : X.stack = X.env :: X.outer
  frm : X.env.frame = some X.env.locals
  hcall : S.mode = 0 → ∀ (k : Nat) (p : Fd), T.hfns[k]? = some p → ReadyH X W.ct p
section
variable {T : Tab} {S : SC} {X : Cx} {W : Wi}
theorem OkS.nm (O : OkS T S X W) {i : Nat} {x : Str} {p : Pos} (h : S.st i x = true) : PG X (.Name x p) (gName i) := by
  obtain ⟨h1, h2⟩ := of_and h
  exact pg_name O.nd (by rw [O.N]; exact of_decide_eq_true h1) (O.toOkX.loc h2) (.inl (O.fn x))
theorem OkX.blockKind (O : OkX T S X W) : X.env.blockKind = .function := by
  unfold Env.blockKind
  rw [O.kind]
  rfl
theorem swIn {ts vs : List Expr} {env : Env} (hb : env.blockKind = .function) (c1 : ((ts.length == 2 || ts.length == 3) && vs.length == ts.length) = true) : ((!(ts.length == 2 || ts.length == 3)) || vs.length != ts.length || env.blockKind != .function) = false := by
  rw [Bool.and_eq_true] at c1
  rw [hb, c1.1]
  have : (vs.length != ts.length) = false := by rw [bne, c1.2]; rfl
  rw [this]
  rfl
theorem swOut {ts vs : List Expr} {env : Env} (c1 : ¬ ((ts.length == 2 || ts.length == 3) && vs.length == ts.length) = true) : ((!(ts.length == 2 || ts.length == 3)) || vs.length != ts.length || env.blockKind != .function) = true := by
  cases q : (ts.length == 2 || ts.length == 3) with
  | false => rfl
  | true =>
    rw [q] at c1
    have : (vs.length != ts.length) = true := by
      rw [bne]
      cases q2 : (vs.length == ts.length) with
      | false => rfl
      | true => rw [q2] at c1; exact absurd rfl c1
    rw [this]; rfl
theorem fm_loc (line : Nat) (l : List Expr) (φ : Expr → Option Str) (h1 : ∀ id pos, φ (.Name id pos) = if (S.names.lookup id == some .local && pos.line == line) = true then some id else none)
    (h2 : ∀ x, (∀ id pos, x ≠ .Name id pos) → φ x = none) : l.filterMap φ = localNames S line l := by
  unfold localNames
  congr 1
  funext x
  cases x with
  | Name id pos => exact h1 id pos
  | _ => exact h2 _ (fun _ _ z => by cases z)
theorem any_star (l : List Expr) (φ : Expr → Bool) (h1 : ∀ x, notStar x = true → φ x = false) (h : ∀ x ∈ l, notStar x = true) : l.any φ = false := by
  rw [List.any_eq_false]
  intro x hx
  rw [h1 x (h x hx)]
  exact Bool.false_ne_true
theorem swNone (O : OkX T S X W) {t x : Expr} (h : inOrder S t x = true) : swappedStores [t] x X.env = pure none := by
  cases t with
  | Tuple ts k p =>
    cases x with
    | Tuple vs k2 p2 =>
      have h : (!((ts.length == 2 || ts.length == 3) && vs.length == ts.length) || !((localNames S ((ts.head?.map (·.pos.line)).getD 0) ts).length == ts.length)) = true := h
      unfold swappedStores
      by_cases c1 : ((ts.length == 2 || ts.length == 3) && vs.length == ts.length) = true
      · rw [c1] at h
        have n1 := swIn O.blockKind c1
        have e := fm_loc (S := S) ((ts.head?.map (·.pos.line)).getD 0) ts
        simp only [n1]
        split
        · rfl
        · split
          · rfl
          · split
            · rfl
            · rename_i z
              exfalso
              apply z
              rw [Bool.or_eq_true]
              left
              rw [e]
              · rw [bne]; exact h
              · intro id pos
                show (if (X.env.scope.names.lookup id == some NameKind.local && _) = true then _ else _) = _
                rw [O.names]
              · intro x hx
                cases x <;> first | rfl | exact absurd rfl (hx _ _)
      · have n1 := swOut (env := X.env) c1
        simp only [n1]
        split
        · rfl
        · rename_i z
          exact absurd trivial z
    | _ => rfl
  | List ts p => cases h
  | _ => rfl
theorem swPar (O : OkX T S X W) {x y : Str} {px py p p2 : Pos} {k k2 : Nat} {u v : Expr} (hx : S.names.lookup x = some .local) (hy : S.names.lookup y = some .local) (hl : (px.line == py.line) = true) (hne : x ≠ y) (nu : notStar u = true) (nv : notStar v = true)
    (f1 : (foldedForSure 8 u && foldedForSure 8 v) = false) (f2 : (constantsAlone 8 u && constantsAlone 8 v) = false) : swappedStores [.Tuple [.Name x px, .Name y py] k p] (.Tuple [u, v] k2 p2) X.env = pure (some [x, y]) := by
  have hl' : px.line = py.line := by simpa using hl
  have nm : localNames S px.line [Expr.Name x px, Expr.Name y py] = [x, y] := by
    have e1 : (S.names.lookup x == some NameKind.local && px.line == px.line) = true := by rw [hx]; simp
    have e2 : (S.names.lookup y == some NameKind.local && py.line == px.line) = true := by rw [hy, hl']; simp
    unfold localNames
    rw [List.filterMap_cons, List.filterMap_cons, List.filterMap_nil]
    simp only [e1, e2]
    rfl
  have ed : ([x, y].eraseDups.length != [x, y].length) = false := by
    have : (x == y) = false := by simpa using hne
    simp [List.eraseDups_cons, hne, this, Ne.symm hne]
  have e := fm_loc (S := S) px.line [Expr.Name x px, Expr.Name y py]
  have st := any_star [u, v]
  unfold swappedStores
  have n1 := swIn (ts := [Expr.Name x px, Expr.Name y py]) (vs := [u, v]) O.blockKind rfl
  have a1 : ∀ id pos, (fun z : Expr => match z with
      | .Name id pos => if (X.env.kindOf id == some .local && pos.line == px.line) = true then some id else none
      | _ => none) (.Name id pos) = if (S.names.lookup id == some .local && pos.line == px.line) = true then some id else none := fun id pos => by
    show (if (X.env.scope.names.lookup id == some NameKind.local && _) = true then _ else _) = _
    rw [O.names]
  simp only [n1]
  have hd : (Option.map (fun x : Expr => x.pos.line) [Expr.Name x px, Expr.Name y py].head?).getD 0 = px.line := rfl
  simp only [hd]
  split
  · rename_i z; cases z
  · split
    · rename_i z
      rw [st] at z
      · cases z
      · intro x h; cases x <;> first | rfl | cases h
      · intro x h
        simp only [List.mem_cons, List.not_mem_nil, or_false] at h
        rcases h with h | h
        · rw [h]; exact nu
        · rw [h]; exact nv
    · split
      · rename_i z
        rw [e] at z
        · rw [nm, ed] at z
          rw [Bool.or_false, bne] at z
          cases z
        · intro id pos
          show (if (X.env.scope.names.lookup id == some NameKind.local && _) = true then _ else _) = _
          rw [O.names]
        · intro x hx
          cases x <;> first | rfl | exact absurd rfl (hx _ _)
      · split
        · rename_i z
          rw [List.all_cons, List.all_cons, List.all_nil, Bool.and_true, f1] at z
          cases z
        · split
          · rename_i z
            rw [List.all_cons, List.all_cons, List.all_nil, Bool.and_true, f2] at z
            cases z
          · rw [e]
            · rw [nm]
            · intro id pos
              show (if (X.env.scope.names.lookup id == some NameKind.local && _) = true then _ else _) = _
              rw [O.names]
            · intro x hx
              cases x <;> first | rfl | exact absurd rfl (hx _ _)
theorem swPar3 (O : OkX T S X W) {x y z0 : Str} {px py pz p p2 : Pos} {k k2 : Nat} {u v w0 : Expr} (hx : S.names.lookup x = some .local) (hy : S.names.lookup y = some .local) (hz : S.names.lookup z0 = some .local) (hl : (px.line == py.line) = true) (hlz : (px.line == pz.line) = true) (hne : x ≠ y) (hne2 : x ≠ z0) (hne3 : y ≠ z0) (nu : notStar u = true) (nv : notStar v = true) (nw : notStar w0 = true)
    (f1 : (foldedForSure 8 u && (foldedForSure 8 v && foldedForSure 8 w0)) = false) (f2 : (constantsAlone 8 u && (constantsAlone 8 v && constantsAlone 8 w0)) = false) : swappedStores [.Tuple [.Name x px, .Name y py, .Name z0 pz] k p] (.Tuple [u, v, w0] k2 p2) X.env = pure (some [x, y, z0]) := by
  have hl' : px.line = py.line := by simpa using hl
  have hlz' : px.line = pz.line := by simpa using hlz
  have nm : localNames S px.line [Expr.Name x px, Expr.Name y py, Expr.Name z0 pz] = [x, y, z0] := by
    have e1 : (S.names.lookup x == some NameKind.local && px.line == px.line) = true := by rw [hx]; simp
    have e2 : (S.names.lookup y == some NameKind.local && py.line == px.line) = true := by rw [hy, hl']; simp
    have e3 : (S.names.lookup z0 == some NameKind.local && pz.line == px.line) = true := by rw [hz, hlz']; simp
    unfold localNames
    rw [List.filterMap_cons, List.filterMap_cons, List.filterMap_cons, List.filterMap_nil]
    simp only [e1, e2, e3]
    rfl
  have ed : ([x, y, z0].eraseDups.length != [x, y, z0].length) = false := by
    have h1 : (x == y) = false := by simpa using hne
    have h2 : (x == z0) = false := by simpa using hne2
    have h3 : (y == z0) = false := by simpa using hne3
    have h4 : (y == x) = false := by simpa using Ne.symm hne
    have h5 : (z0 == x) = false := by simpa using Ne.symm hne2
    have h6 : (z0 == y) = false := by simpa using Ne.symm hne3
    simp [List.eraseDups_cons, h1, h2, h3, h4, h5, h6, hne, hne2, hne3, Ne.symm hne, Ne.symm hne2, Ne.symm hne3]
  have e := fm_loc (S := S) px.line [Expr.Name x px, Expr.Name y py, Expr.Name z0 pz]
  have st := any_star [u, v, w0]
  unfold swappedStores
  have n1 := swIn (ts := [Expr.Name x px, Expr.Name y py, Expr.Name z0 pz]) (vs := [u, v, w0]) O.blockKind rfl
  have a1 : ∀ id pos, (fun z : Expr => match z with
      | .Name id pos => if (X.env.kindOf id == some .local && pos.line == px.line) = true then some id else none
      | _ => none) (.Name id pos) = if (S.names.lookup id == some .local && pos.line == px.line) = true then some id else none := fun id pos => by
    show (if (X.env.scope.names.lookup id == some NameKind.local && _) = true then _ else _) = _
    rw [O.names]
  simp only [n1]
  have hd : (Option.map (fun x : Expr => x.pos.line) [Expr.Name x px, Expr.Name y py, Expr.Name z0 pz].head?).getD 0 = px.line := rfl
  simp only [hd]
  split
  · rename_i z; cases z
  · split
    · rename_i z
      rw [st] at z
      · cases z
      · intro x h; cases x <;> first | rfl | cases h
      · intro x h
        simp only [List.mem_cons, List.not_mem_nil, or_false] at h
        rcases h with h | h | h
        · rw [h]; exact nu
        · rw [h]; exact nv
        · rw [h]; exact nw
    · split
      · rename_i z
        rw [e] at z
        · rw [nm, ed] at z
          rw [Bool.or_false, bne] at z
          cases z
        · intro id pos
          show (if (X.env.scope.names.lookup id == some NameKind.local && _) = true then _ else _) = _
          rw [O.names]
        · intro x hx
          cases x <;> first | rfl | exact absurd rfl (hx _ _)
      · split
        · rename_i z
          rw [List.all_cons, List.all_cons, List.all_cons, List.all_nil, Bool.and_true, f1] at z
          cases z
        · split
          · rename_i z
            rw [List.all_cons, List.all_cons, List.all_cons, List.all_nil, Bool.and_true, f2] at z
            cases z
          · rw [e]
            · rw [nm]
            · intro id pos
              show (if (X.env.scope.names.lookup id == some NameKind.local && _) = true then _ else _) = _
              rw [O.names]
            · intro x hx
              cases x <;> first | rfl | exact absurd rfl (hx _ _)
/-- does a comprehension's value go to its name with the stores exchanged? -/
def xch (S : SC) (x : Str) (p : Pos) (scope : Scope) (pos : Pos) : Bool := decide (S.names.lookup x = some .local) && (p.line == pos.line) && !(scope.names.any fun (n, k) => n == x && (k == .local || k == .cell))
theorem swComp (O : OkX T S X W) {elt : Expr} {gs : List Comprehension} {scope : Scope} {pos p : Pos} {x : Str} {l : Nat} : swapsWith (.ListComp elt gs scope pos) (some (.Name x p)) l X.env = pure (xch S x p scope pos) := by
  unfold swapsWith xch
  have kx : X.env.kindOf x = S.names.lookup x := by unfold Env.kindOf; rw [O.names]
  simp only [O.blockKind, kx, Expr.pos]
  have e : (S.names.lookup x == some NameKind.local) = decide (S.names.lookup x = some NameKind.local) := by
    cases h : S.names.lookup x with
    | none => rfl
    | some k => cases k <;> rfl
  rw [e]
  rfl
/-- a comprehension's value to a name, whichever way its stores go -/
theorem compAsg (O : OkS T S X W) (h0 : S.mode = 0) {i : Nat} {n : Str} {p spos : Pos} {elt : E} {vs : List Nat} {tg : Tg} {it : I} {t : Op} {x : Expr} (hn : S.st i n = true) (h : (F.comp elt vs tg it t).ck T S x = true) :
    ∃ te, PS X (.Assign [.Name n p] x spos) (tAsg te (gName i)) ∧ ∀ σ H Q, tF X.K W ((F.comp elt vs tg it t).den T) σ H Q → te σ H Q := by
  obtain ⟨y, z, ifs, scope, pos, x1, rfl, C, wi⟩ := compOk_of (fun O x h => (elt.ok O x h).1) (fun O tg x h h' => it.ok O x h h') (fun O x h => (t.ok O x h).1) O.toOkX x h
  have e : (ownOf S vs).map (·.2) = vs := by
    unfold ownOf
    rw [List.map_map]
    exact List.map_id' _
  have rd : ∀ σ H Q, tF X.K W ((F.comp elt vs tg it t).den T) σ H Q → tLc (wiI X.K W it.ow (it.den T)) (gM X.K tg.st tg.slots) (tO X.K (Wi.none W.ct) (t.den T)) (tM X.K (Wi.none W.ct) (elt.den T)) ((ownOf S vs).map (·.2)) σ H Q := fun σ H Q q => comp_readI C.hv (by rw [e]; exact q)
  obtain ⟨h1, h2⟩ := of_and hn
  have sw := swComp O.toOkX (elt := x1) (gs := [⟨y, z, ifs, 0⟩]) (scope := scope) (pos := pos) (p := p) (x := n) (l := spos.line)
  cases c : xch S n p scope pos with
  | true =>
    rw [c] at sw
    have c2 := c
    unfold xch at c2
    obtain ⟨c2, _⟩ := of_and c2
    obtain ⟨c2, _⟩ := of_and c2
    exact ⟨_, ps_setLc (O.calm h0) O.nd (by rw [O.N]; exact of_decide_eq_true h1) (by rw [O.names]; exact of_decide_eq_true c2) sw wi C.ok C.tg C.tt C.el C.fs, rd⟩
  | false =>
    rw [c] at sw
    exact ⟨_, ps_set O.nd (by rw [O.N]; exact of_decide_eq_true h1) (O.toOkX.loc h2) (pe_lc (O.calm h0) O.nd wi C.ok C.tg C.tt C.el C.fs) sw (.inl (O.fn n)), rd⟩
theorem comp_form {e : E} {x : Expr} (h : e.ck T S x = true) (hc : isComp x = true) : ∃ elt vs tg it t, e = .fr (.comp elt vs tg it t) ∧ (F.comp elt vs tg it t).ck T S x = true := by
  cases x with
  | ListComp x1 gs scope p =>
    cases e with
    | fr f =>
      cases f with
      | comp elt vs tg it t => exact ⟨elt, vs, tg, it, t, rfl, h⟩
      | _ => cases h
    | _ => cases h
  | _ => cases hc
theorem comp_formF {f : F} {x : Expr} (h : f.ck T S x = true) (hc : isComp x = true) : ∃ elt vs tg it t, f = .comp elt vs tg it t := by
  cases x with
  | ListComp x1 gs scope p =>
    cases f with
    | comp elt vs tg it t => exact ⟨elt, vs, tg, it, t, rfl⟩
    | _ => cases h
  | _ => cases hc
theorem isComp_not {x : Expr} (h : isComp x = true) : notComp x = false := by
  cases x <;> first | rfl | cases h
theorem swTup (ts : List Expr) (k : Nat) {p : Pos} {x : Expr} {l : Nat} {env : Env} : swapsWithSole [.Tuple ts k p] x l env = pure false := by
  cases x <;> rfl
theorem nstar_asg {t : Expr} (h : notStar t = true) : (assignEach [t] X.env).map (·.2) = [assign t X.env] := by
  cases t <;> first | rfl | cases h
end
section
variable {T : Tab} {S : SC} {X : Cx} {W : Wi}
theorem OkS.suite (O : OkS T S X W) (a : Addr) (pn : List (Addr × Obj)) : OkS T S.suite (X.suite a pn) (Wi.none W.ct) where
  N := O.N
  nd := O.nd
  names := O.names
  kind := O.kind
  calm := fun e => absurd (show (2 : Nat) = 0 from e) (by decide)
  hot := fun e => absurd (show (2 : Nat) = 1 from e) (by decide)
  hu := O.hu
  tk := takesN
  call := fun e => absurd (show (2 : Nat) = 0 from e) (by decide)
  ct := O.ct
  exc := O.exc
  ask := O.ask
  bi := O.bi
  glo := O.glo
  ps := PassesOwn.never
  fn := O.fn
  ex := O.ex
  stk := O.stk
  frm := O.frm
  hcall := fun e => absurd (show (2 : Nat) = 0 from e) (by decide)
theorem OkS.tr (O : OkS T S X W) {w : WX} {pn : List (Addr × Obj)} {xe : Value → Shared → Prop} (tk : L2N.Takes (X.tr pn xe) w) (ps : PassesOwn (model X.prog X.w) X.A X.env xe) : OkS T S (X.tr pn xe) ⟨w, W.ct⟩ where
  N := O.N
  nd := O.nd
  names := O.names
  kind := O.kind
  calm := O.calm
  hot := O.hot
  hu := O.hu
  tk := tk
  call := O.call
  ct := O.ct
  exc := O.exc
  ask := O.ask
  bi := O.bi
  glo := O.glo
  ps := ps
  fn := O.fn
  ex := O.ex
  stk := O.stk
  frm := O.frm
  hcall := O.hcall
theorem clsNames (O : OkX T S X W) {c : Nat} {x : Str} (h : clsCk T S c x = true) : Names X x (.ref (ctOf X.K c)) ∧ c ∈ T.qs ∧ c ≠ 15 := by
  obtain ⟨h, h4⟩ := of_and h
  obtain ⟨h, h3⟩ := of_and h
  obtain ⟨h1, h2⟩ := of_and h
  have e : x = exNm c := of_decide_eq_true h1
  have m : c ∈ T.qs := of_decide_eq_true h3
  have n : c ≠ 15 := by simpa using h4
  subst e
  obtain ⟨k1, k2⟩ := O.ask c m n
  exact ⟨⟨O.gl h2, k2, .inl k1⟩, m, n⟩
theorem Rl.clear {K : PySem.W.Frag} {G : Gh} {δ : En} {σ : L2.St} {H0 H : Hp} {i : Nat} (R : Rl K G δ σ H0 H) (np : ∀ o, δ[i]? ≠ some (.pi o)) : Rl K G (δ.set i .no) (σ.set i none) H0 H := by
  have key : ∀ {j : Nat} {s : Sl}, (δ.set i .no)[j]? = some s → isOwn s = true → i ≠ j ∧ δ[j]? = some s := fun {j s} e o => by
    by_cases hj : i = j
    · subst hj
      by_cases hl : i < δ.length
      · rw [List.getElem?_set_self hl] at e; cases e; cases o
      · rw [List.getElem?_eq_none (by simpa using hl)] at e; cases e
    · rw [List.getElem?_set_ne hj] at e; exact ⟨hj, e⟩
  refine ⟨R.hs, R.he, R.hf, R.hn, by rw [List.length_set, List.length_set, R.len], fun j s x a b => ?_, fun j k s t a ne e1 e2 o1 o2 f1 f2 => ?_, fun j a hp => ?_⟩
  · by_cases hj : i = j
    · subst hj
      by_cases hl : i < δ.length
      · rw [List.getElem?_set_self hl] at a; cases a; trivial
      · rw [List.getElem?_eq_none (by simpa using hl)] at a; cases a
    · rw [List.getElem?_set_ne hj] at a b
      exact R.sl j s x a b
  · obtain ⟨n1, d1⟩ := key e1 o1
    obtain ⟨n2, d2⟩ := key e2 o2
    rw [List.getElem?_set_ne n1] at f1
    rw [List.getElem?_set_ne n2] at f2
    exact R.dj j k s t a ne d1 d2 o1 o2 f1 f2
  · obtain ⟨o, e1, e2⟩ := R.pn j a hp
    have hj : i ≠ j := fun z => np o (z ▸ e1)
    exact ⟨o, by rw [List.getElem?_set_ne hj]; exact e1, by rw [List.getElem?_set_ne hj]; exact e2⟩
theorem clrS_ok {K : PySem.W.Frag} {W : Wi} {G : Gh} {H0 : Hp} {i : Nat} {δ : En} {k : En → RS} {D : Ends} (h : PoS K W G H0 (clrS i δ k) D) : (∀ o, δ[i]? ≠ some (.pi o)) ∧ PoS K W G H0 (k (δ.set i .no)) D := by
  unfold clrS at h
  split at h
  · exact h.elim
  · rename_i n
    exact ⟨fun o e => n o e, h⟩
/-- the suite's end, and the try's -/
theorem catchS_ok {K : PySem.W.Frag} {W : Wi} {ct : Nat → Addr} {G : Gh} {H0 : Hp} {i : Nat} {r : RS} {D : Ends} (h : PoS K W G H0 (catchS i r) D) :
    PoS K (Wi.none ct) G H0 r { D with nx := fun σ' H' => D.nx (σ'.set i none) H', bk := fun σ' H' => D.bk (σ'.set i none) H', ct := fun σ' H' => D.ct (σ'.set i none) H' } := by
  cases r with
  | nx δ => obtain ⟨np, h⟩ := clrS_ok (k := .nx) h; exact fun σ' H1 H' R s => h _ H1 H' (R.clear np) s
  | bk δ => obtain ⟨np, h⟩ := clrS_ok (k := .bk) h; exact fun σ' H1 H' R s => h _ H1 H' (R.clear np) s
  | ct δ => obtain ⟨np, h⟩ := clrS_ok (k := .ct) h; exact fun σ' H1 H' R s => h _ H1 H' (R.clear np) s
  | rt d δ => exact h
  | ro o δ => exact h
  | rz c δ => exact h.elim
  | bad => exact h
theorem noRz_ok {K : PySem.W.Frag} {W : Wi} {ct : Nat → Addr} {G : Gh} {H0 : Hp} {r : RS} {D : Ends} (h : PoS K W G H0 (noRz r) D) : PoS K (Wi.none ct) G H0 r D := by
  cases r with
  | rz c δ => exact h.elim
  | _ => exact h
/-- the exception, locked, to its name -/
theorem Rl.setX {K : PySem.W.Frag} {G : Gh} {δ : En} {σ : L2.St} {H0 H : Hp} {i c : Nat} {a : Addr} {oe : Obj} (R : Rl K G δ σ H0 H) (na : H a = none) (x : ExcO K c oe) (np : ∀ o, δ[i]? ≠ some (.pi o)) :
    Rl K G (δ.set i (.va (.exc c))) (σ.set i (some (.ref a))) (upd H0 a (exT oe)) (upd H a (exT oe)) :=
  (R.grow (Gr.new R.hs na)).set_va (.exc upd_same x) np
theorem ExIs.plain {K : PySem.W.Frag} {ct : Nat → Addr} {e : Exc} {cls : Value} {dd : Option Addr} {H : Hp} (x : ExIs K ct e cls dd H) (h : e.pl.isEmpty = true) : cls = .ref (ct e.c) ∧ dd = none := by
  obtain ⟨h1, h2 | ⟨h2, _⟩⟩ := x
  · exact ⟨h1, h2.2⟩
  · exact absurd (List.isEmpty_iff.mp h) h2
/-- where nothing is raised, the wish is no matter -/
theorem PoS.other {K : PySem.W.Frag} {W : Wi} {w : WX} {G : Gh} {H0 : Hp} {r : RS} {D : Ends} (n : ∀ e δ1, r ≠ .rz e δ1) (h : PoS K W G H0 r D) : PoS K ⟨w, W.ct⟩ G H0 r D := by
  cases r with
  | rz c δ => exact absurd rfl (n c δ)
  | _ => exact h
theorem isEmpty_nil {e : Exc} (h : e.pl.isEmpty = true) : e.pl = [] := List.isEmpty_iff.mp h
/-- the caught one, in the wish of the one clause -/
theorem tryA_wish (O : OkX T S X W) {D : Ends} {G : Gh} {H0 : Hp} {δ1 : En} {c i : Nat} {fu : SDen} {e : Exc} {ts : Addr → TS} (hc : c ∈ T.qs) (hn : c ≠ 15) (hts : ∀ a D σ H, σ[i]? = some (some (V.ref a)) ∧ sM X.K (Wi.none W.ct) fu D σ H → ts a D σ H)
    (q : PoS X.K W G H0 (tryA1 T.rs c i fu e δ1) D) : PoS X.K ⟨wTry X.K (.ref (ctOf X.K c)) i ts W.w D, W.ct⟩ G H0 (.rz e δ1) D := by
  intro cls dd σ' H1 H' R s x
  unfold tryA1 at q
  split at q
  · rename_i hp
    obtain ⟨p1, p2⟩ := of_and hp
    obtain ⟨e1, e2⟩ : cls = .ref (ctOf X.K e.c) ∧ dd = none := by rw [← O.ct]; exact ExIs.plain x p1
    have kx := O.exc e.c (by simpa using p2)
    have m := kx.ex c hc hn
    unfold clsV at m
    rw [if_neg hn] at m
    refine ⟨subE e.c c, by rw [e1]; exact m, fun hb => ?_, fun hb => ⟨e2, fun a oe na o1 o2 o3 => ?_⟩⟩
    · rw [hb] at q
      exact q cls dd σ' H1 H' R s x
    · rw [hb] at q
      have q : PoS X.K W G H0 (Z.setX i e.c δ1 fun δ1 => catchS i (fu δ1)) D := q
      unfold Z.setX at q
      split at q
      · exact q.elim
      · exact q.elim
      · rename_i np es
        have hl : i < σ'.length := by rw [← R.len]; exact (List.getElem?_eq_some_iff.mp es).1
        have np : ∀ o, δ1[i]? ≠ some (.pi o) := fun o z => by rw [es] at z; cases z; exact np _ rfl
        have R2 := R.setX (c := e.c) na ⟨by rw [o1, e1], o2, o3⟩ np
        refine hts a _ _ _ ⟨?_, G, _, _, R2, (catchS_ok (ct := W.ct) q).up (s.trans (Gr.new (o := exT oe) R.hs na).h0)⟩
        exact List.getElem?_set_self hl
  · exact q.elim
theorem pickH_ok (O : OkX T S X W) {D : Ends} {G : Gh} {H0 : Hp} {δ1 : En} {e : Exc} {l : List (Value × (Addr → Value → Option Addr → TS))} {hs : List (Nat × SDen)} (he : e.c ∈ T.rs) (hp : e.pl.isEmpty = true)
    (hl : Paired (fun (p : Value × (Addr → Value → Option Addr → TS)) (h : Nat × SDen) => p.1 = .ref (ctOf X.K h.1) ∧ h.1 ∈ T.qs ∧ h.1 ≠ 15 ∧ ∀ a cls d D σ H, sM X.K (Wi.none W.ct) h.2 D σ H → p.2 a cls d D σ H) l hs)
    (q : PoS X.K W G H0 (pickH e δ1 hs) D) : PoS X.K ⟨wMany X.K W.w D l, W.ct⟩ G H0 (.rz e δ1) D := by
  induction hl with
  | nil => exact q
  | @cons p h l hs r _ ih =>
    obtain ⟨c, ts⟩ := p
    obtain ⟨k, f⟩ := h
    obtain ⟨r1, r2, r3, r4⟩ := r
    dsimp only at r1 r2 r3 r4
    subst r1
    intro cls dd σ' H1 H' R s x
    obtain ⟨e1, e2⟩ : cls = .ref (ctOf X.K e.c) ∧ dd = none := by rw [← O.ct]; exact ExIs.plain x hp
    have m := (O.exc e.c he).ex k r2 r3
    unfold clsV at m
    rw [if_neg r3] at m
    have q : PoS X.K W G H0 (if subE e.c k then noRz (f δ1) else pickH e δ1 hs) D := q
    refine ⟨subE e.c k, by rw [e1]; exact m, fun hb a _ => ?_, fun hb => ?_⟩
    · rw [hb] at q
      exact r4 a _ _ _ _ _ ⟨G, δ1, H1, R, (noRz_ok (ct := W.ct) q).up s⟩
    · rw [hb] at q
      exact ih q cls dd σ' H1 H' R s x
theorem rtn_eq (f : Den) (δ : En) : sRet (dTup [dCst .non, f]) δ = (match f δ with
    | .ok d δ1 => .rt (.tup [.non, d]) δ1
    | .rz c δ1 => .rz c δ1
    | .bad => .bad) := by
  cases e : f δ <;> simp [sRet, dTup, dArgs, dCst, bindES, bindA, consA, bindAA, e]
/-- f(e, ..) in the suite of e -/
theorem me_callT (O : OkS T S X W) (h0 : S.mode = 0) {a : Addr} {pn : List (Addr × Obj)} {i k : Nat} {es : Es} {x : Expr} (hes : ∀ (ys : List Expr), es.ck T S.suite ys = true → AllG (X.suite a pn) (Wi.none W.ct) ys (es.den T)) (h : hotCk T S.suite i k es x = true) :
    PE (X.suite a pn) x (fun σ H Q => σ[i]? = some (some (V.ref a)) ∧ tM X.K (Wi.none W.ct) (dCallT (hfn T k) i (es.den T)) σ H Q) ∧ notComp x = true ∧ notStar x = true := by
  unfold hotCk at h
  split at h
  · rename_i n px y py ys p eg
    have ex := getHot_eq eg
    subst ex
    obtain ⟨h, h5⟩ := of_and h
    obtain ⟨h, h4⟩ := of_and h
    obtain ⟨h, h3⟩ := of_and h
    obtain ⟨h1, h2⟩ := of_and h
    have Os := O.suite a pn
    have A := hes ys h5
    refine ⟨?_, rfl, rfl⟩
    have st := starEach_of (x := .Name y py) rfl ys (X.suite a pn).env
    have pl := A.plain (pos := p)
    cases e : T.hfns[k]? with
    | none => rw [e] at h4; cases h4
    | some f =>
      rw [e] at h4
      obtain ⟨h4, h8⟩ := of_and h4
      obtain ⟨h6, h7⟩ := of_and h4
      have e6 : f.name = n := of_decide_eq_true h6
      have e7 : f.ar = ys.length + 1 := of_decide_eq_true h7
      subst e6
      obtain ⟨lv, fa, fd, ps, F, hr, hm, hk, hb⟩ := O.hcall h0 k f e
      have hf : hfn T k = f.sem := by unfold hfn; rw [e]
      refine PE_imp (pe_callT (X := X.suite a pn) F ⟨hr.dp, hr.un⟩ (Os.toOkX.gl h1) hm hk hb (pa_cons (Os.toOkX.at h3) A.args st) (by rw [Bool.not_eq_true'] at h2; exact h2) st pl) fun σ H Q ⟨hσ, G, δ, H0, R, q⟩ => ⟨.ref a, hσ, G, δ, H0, R, ?_⟩
      unfold dCallT hotL at q
      split at q
      · rename_i c ed
        obtain ⟨v, e1, rv⟩ := R.va_at ed
        rw [hσ] at e1
        cases e1
        cases rv with
        | exc ha xo =>
          rename_i oe
          obtain ⟨o1, o2, fs, o3, o4⟩ := xo
          cases eA : dArgs (es.den T) δ with
          | bad => rw [eA] at q; exact q.elim
          | rz z δ1 => rw [eA] at q; exact q
          | ok ds δ1 =>
            rw [eA, hf] at q
            have q : PoE X.K (Wi.none W.ct) G σ H0 (ofD (f.sem (.exc c :: ds)) δ1) Q := q
            intro vs H1 H' R1 s1 r1
            refine ⟨⟨a, oe, fs, rfl, R1.hs a _ (s1 a _ ha), o3, o4⟩, H1, .exc c :: ds, R1.hs, .cons (.exc (s1 a _ ha) ⟨o1, o2, fs, o3, o4⟩) r1, by rw [List.length_cons, e7, dArgs_len eA, ← A.len], ?_⟩
            cases hg : f.sem (.exc c :: ds) with
            | ok d => rw [hg] at q; exact fun v H2 H'' gr r => q v H2 H'' (R1.grow gr) (s1.trans gr.h0) r
            | ow o => rw [hg] at q; exact fun b H2 H'' gr n n0 ow => read_in q (R1.grow gr) (s1.trans gr.h0) n0 (R1.he_none n) ow (R1.own_ne n)
            | okp d o => rw [hg] at q; exact q.elim
            | owp d o => rw [hg] at q; exact q.elim
            | rz z => rw [hg] at q; exact fun cls dd H2 H'' gr x => q cls dd H2 H'' (R1.grow gr) (s1.trans gr.h0) x
            | bad => rw [hg] at q; exact q.elim
      · exact q.elim

  · cases h
end
theorem ms_raise {T : Tab} {S : SC} {X : Cx} {W : Wi} (O : OkS T S X W) (h0 : S.mode = 0) {c j : Nat} {x m : Str} {px p2 p3 p : Pos} (e1 : x = exNm c) (h3 : S.gl x = true) (h4 : c ∈ T.rs) : PS X (.Raise (some (.Call (.Name x px) [.Constant (.str m) j p2] [] p3)) none p) (sM X.K W (sRaise c)) := by
  subst e1
  have kx := O.exc c h4
  exact PS_imp (L2N.ps_raise (O.calm h0) O.tk (L2N.pmk_own PySem.F.excBase_ValueError kx.mx kx.mgc kx.kp (raises_own kx.ec.hs kx.ty) (O.toOkX.gl h3) kx.nd)) fun D σ H ⟨G, δ, H0, R, q⟩ =>
    q _ none σ H0 H R (Same.refl _) ⟨by rw [O.ct], .inl ⟨rfl, rfl⟩⟩
theorem tryA_ok {T : Tab} {S : SC} {X : Cx} {W : Wi} (O : OkS T S X W) {b : Ss} {c i : Nat} {u : Su} {body : List Stmt} {x n : Str} {px p p2 : Pos} {s0 : Stmt} {suite : List Stmt} (h3 : clsCk T S c x = true) (h4 : S.N[i]? = some n) (h5 : S.names.lookup n = some .local)
   (hb : ∀ (X' : Cx) (W' : Wi), OkS T S X' W' → PSs X' body (sM X'.K W' (b.den T))) (hu : ∀ a pn, PSs (X.suite a pn) (s0 :: suite) (fun D σ H => σ[i]? = some (some (V.ref a)) ∧ sM X.K (Wi.none W.ct) (u.den T i) D σ H)) :
   PS X (.Try body [.ExceptHandler (some (.Name x px)) (some n) (s0 :: suite) p2] [] [] p) (sM X.K W (sTryA T.rs (b.den T) c i (u.den T i))) := by
  obtain ⟨nm, hc, hn⟩ := clsNames O.toOkX h3
  have e4 : X.N[i]? = some n := by rw [O.N]; exact h4
  have e5 : X.env.kindOf n = some .local := by unfold Env.kindOf; rw [O.names]; exact h5
  have R := ps_tryT (pos := p) (pos' := p2) (np := px) O.stk O.frm O.ex O.nd (i := i) e4 e5 nm O.tk (tb := fun w => sM X.K ⟨w, W.ct⟩ (b.den T)) (ts := fun a D σ H => σ[i]? = some (some (V.ref a)) ∧ sM X.K (Wi.none W.ct) (u.den T i) D σ H) (fun w pn xe tk ps => hb (X.tr pn xe) ⟨w, W.ct⟩ (O.tr tk ps)) hu
  refine PS_imp R fun D σ H ⟨G, δ, H0, R, q⟩ => ⟨G, δ, H0, R, ?_⟩
  generalize u.den T i = fu at *
  generalize b.den T = fb at *
  have q : PoS X.K W G H0 (sTryA T.rs fb c i fu δ) D := q
  unfold sTryA at q
  cases e : fb δ with
  | rz x δ1 => rw [e] at q; exact tryA_wish O.toOkX hc hn (fun _ _ _ _ z => z) q
  | nx δ1 => rw [e] at q; exact q
  | rt d δ1 => rw [e] at q; exact q
  | ro d δ1 => rw [e] at q; exact q
  | bk δ1 => rw [e] at q; exact q
  | ct δ1 => rw [e] at q; exact q
  | bad => rw [e] at q; exact q
theorem tryN_ok {T : Tab} {S : SC} {X : Cx} {W : Wi} (O : OkS T S X W) {b : Ss} {hs : Hs} {body : List Stmt} {h0 : ExceptHandler} {hds : List ExceptHandler} {p : Pos} {l : List (Value × (Addr → Value → Option Addr → TS))}
   (hb : ∀ (X' : Cx) (W' : Wi), OkS T S X' W' → PSs X' body (sM X'.K W' (b.den T))) (hl : L2N.HdsOk X (h0 :: hds) l) (hp : Paired (fun (p : Value × (Addr → Value → Option Addr → TS)) (h : Nat × SDen) => p.1 = .ref (ctOf X.K h.1) ∧ h.1 ∈ T.qs ∧ h.1 ≠ 15 ∧ ∀ a cls d D σ H, sM X.K (Wi.none W.ct) h.2 D σ H → p.2 a cls d D σ H) l (hs.den T)) :
   PS X (.Try body (h0 :: hds) [] [] p) (sM X.K W (sTryN T.rs (b.den T) (hs.den T))) := by
  have R := L2N.ps_try_many (pos := p) O.stk O.frm O.tk (tb := fun w => sM X.K ⟨w, W.ct⟩ (b.den T)) (fun w pn xe tk ps => hb (X.tr pn xe) ⟨w, W.ct⟩ (O.tr tk ps)) hl
  refine PS_imp R fun D σ H ⟨G, δ, H0, R, q⟩ => ⟨G, δ, H0, R, ?_⟩
  generalize hs.den T = fh at *
  generalize b.den T = fb at *
  have q : PoS X.K W G H0 (sTryN T.rs fb fh δ) D := q
  unfold sTryN at q
  cases e : fb δ with
  | rz x δ1 =>
    rw [e] at q
    have q : PoS X.K W G H0 (tryN1 T.rs fh x δ1) D := q
    unfold tryN1 at q
    split at q
    · rename_i z
      obtain ⟨z1, z2⟩ := of_and z
      exact pickH_ok O.toOkX (by simpa using z2) z1 hp q
    · exact q.elim
  | nx δ1 => rw [e] at q; exact q
  | rt d δ1 => rw [e] at q; exact q
  | ro d δ1 => rw [e] at q; exact q
  | bk δ1 => rw [e] at q; exact q
  | ct δ1 => rw [e] at q; exact q
  | bad => rw [e] at q; exact q
theorem suRet {T : Tab} {S : SC} {X : Cx} {W : Wi} (O : OkS T S X W) {a : Addr} {pn : List (Addr × Obj)} {i : Nat} {e : Expr} {f : Den} {p : Pos} (he : PE (X.suite a pn) e (fun σ H Q => σ[i]? = some (some (V.ref a)) ∧ tM X.K (Wi.none W.ct) f σ H Q)) :
    PSs (X.suite a pn) [.Return (some e) p] (fun D σ H => σ[i]? = some (some (V.ref a)) ∧ sM X.K (Wi.none W.ct) (sRet f) D σ H) :=
  PSs_imp (pss_cons (ps_ret he) pss_nil) fun D σ H ⟨hσ, G, δ, H0, R, q⟩ => ⟨hσ, G, δ, H0, R, PoS.bindE (k := fun d δ1 => .rt d δ1) q fun d δ1 v H1 H' R1 r1 h1 => h1 v σ H1 H' R1 (Same.refl _) r1⟩
theorem suAsg {T : Tab} {S : SC} {X : Cx} {W : Wi} (O : OkS T S X W) {a : Addr} {pn : List (Addr × Obj)} {i j : Nat} {n : Str} {np : Pos} {e : Expr} {f : Den} {p : Pos} (he : PE (X.suite a pn) e (fun σ H Q => σ[i]? = some (some (V.ref a)) ∧ tM X.K (Wi.none W.ct) f σ H Q)) (h1 : S.st j n = true) (nc : notComp e = true) :
    PSs (X.suite a pn) [.Assign [.Name n np] e p] (fun D σ H => σ[i]? = some (some (V.ref a)) ∧ sM X.K (Wi.none W.ct) (sAsg (Tg.st (.var j)) f) D σ H) := by
  have Os := O.suite a pn
  have g : PG (X.suite a pn) (.Name n np) (gM X.K (Tg.st (.var j)) (Tg.slots (.var j))) := mg_name (Os.nm h1)
  refine PSs_imp (pss_cons (ps_asg he g (swSole nc) (swNone Os.toOkX rfl) rfl) pss_nil) fun D σ H ⟨hσ, G, δ, H0, R, q⟩ => ⟨hσ, G, δ, H0, R, PoS.bindE q fun d δ1 v H1 H' R1 r1 h1 => asg_step (D' := D) R1 r1 h1⟩
theorem suRtn {T : Tab} {S : SC} {X : Cx} {W : Wi} (O : OkS T S X W) {a : Addr} {pn : List (Addr × Obj)} {i j2 k2 : Nat} {e : Expr} {f : Den} {p p2 p3 : Pos} (he : PE (X.suite a pn) e (fun σ H Q => σ[i]? = some (some (V.ref a)) ∧ tM X.K (Wi.none W.ct) f σ H Q)) (ns : notStar e = true) :
    PSs (X.suite a pn) [.Return (some (.Tuple [.Constant .none j2 p2, e] k2 p3)) p] (fun D σ H => σ[i]? = some (some (V.ref a)) ∧ sM X.K (Wi.none W.ct) (sRet (dTup [dCst .non, f])) D σ H) := by
  have st := starEach_of (x := e) ns [] (X.suite a pn).env
  have hn : PE (X.suite a pn) (.Constant .none j2 p2) (tC .non) := pe_non
  have A := pa_cons hn (pa_cons he pa_nil st) (by rw [starEach_of (x := .Constant .none j2 p2) rfl [e]])
  have P := pss_cons (ps_ret (pos := p) (pe_tup (x1 := k2) (pos := p3) A)) pss_nil
  refine PSs_imp P fun D σ H ⟨hσ, G, δ, H0, R, q⟩ => ?_
  rw [rtn_eq] at q
  have key : tM X.K (Wi.none W.ct) f σ H (fun v H1 => [V.non, v].length ≤ sizeLine ∧ ∀ p, H1 p = none → D.rt (.ref p) (upd H1 p (.tup [.non, v]))) := by
    refine ⟨G, δ, H0, R, ?_⟩
    cases ed : f δ with
    | bad => rw [ed] at q; exact q.elim
    | rz z δ1 => rw [ed] at q; exact fun cls dd H1 H' R1 s1 x => q cls dd σ H1 H' R1 s1 x
    | ok d δ1 =>
      rw [ed] at q
      intro v H1 H' R1 s1 r1
      refine ⟨show 2 ≤ sizeLine by decide, fun p hp => ?_⟩
      have g := Gr.new (o := .tup [.non, v]) R1.hs hp
      exact q (.ref p) σ _ _ (R1.grow g) (s1.trans g.h0) (.tup (.inl (.inl upd_same)) (.cons .non (.cons (r1.mono g.h0) .nil)))
  exact ⟨hσ, key⟩
set_option maxHeartbeats 4000000
mutual
theorem S.ok {T : Tab} {S : SC} {X : Cx} {W : Wi} (O : OkS T S X W) : ∀ (s : Z.S) (x : Stmt), s.ck T S x = true → PS X x (sM X.K W (s.den T))
  | .asg tg e, x, h => by
    cases x with
    | Assign ts x p =>
      match ts, h with
      | [t], h =>
        have h : ((S.mode == 0 || (tg.isVar && notComp x)) && tg.ck S.st t && e.ck T S x && inOrder S t x && notStar t && asgT t x) = true := h
        obtain ⟨h, h5⟩ := of_and h
        obtain ⟨h, h4⟩ := of_and h
        obtain ⟨h, h3⟩ := of_and h
        obtain ⟨h, h2⟩ := of_and h
        obtain ⟨h0, h1⟩ := of_and h
        have hv : X.calm = true ∨ tg.isVar = true := by
          rw [Bool.or_eq_true, Bool.and_eq_true] at h0
          rcases h0 with h0 | h0
          · exact .inl (O.calm (by simpa using h0))
          · exact .inr h0.1
        have gen : notComp x = true → PS X (.Assign [t] x p) (sM X.K W ((Z.S.asg tg e).den T)) := fun nc => ms_asg (e.ok O.toOkX x h2).1 (Tg.ok hv h1 fun i x p h => O.nm h) (swaps_of nc _ _ _) (swNone O.toOkX h3) (nstar_asg h4)
        cases t with
        | Name n pn =>
          have h5 : (notComp x || isComp x) = true := h5
          rw [Bool.or_eq_true] at h5
          rcases h5 with h5 | h5
          · exact gen h5
          · cases tg with
            | var i =>
              obtain ⟨elt, vs, tg, it, t, rfl, hf⟩ := comp_form h2 h5
              have m0 : S.mode = 0 := by
                rw [Bool.or_eq_true, Bool.and_eq_true] at h0
                rcases h0 with h0 | h0
                · simpa using h0
                · obtain ⟨_, z⟩ := h0
                  rw [isComp_not h5] at z
                  cases z
              obtain ⟨te, a, b⟩ := compAsg O m0 (p := pn) (spos := p) h1 hf
              exact asg_va a fun σ H Q q => b σ H Q (fr_read q)
            | tup is => cases h1
            | nst is => cases h1
        | Tuple ts k p2 => exact ms_asg (e.ok O.toOkX x h2).1 (Tg.ok hv h1 fun i x p h => O.nm h) (swTup _ _) (swNone O.toOkX h3) (nstar_asg h4)
        | _ => cases h5
    | _ => cases h
  | .par i j a b, x, h => by
    cases x with
    | Assign ts x p =>
      match ts, x, h with
      | [.Tuple [.Name x px, .Name y py] k pt], .Tuple [u, v] k2 pt2, h =>
        have h : (S.mode == 0 && decide (S.N[i]? = some x) && decide (S.N[j]? = some y) && decide (i ≠ j) && decide (S.names.lookup x = some .local) && decide (S.names.lookup y = some .local) &&
          (px.line == py.line) && a.ck T S u && b.ck T S v && notStar u && notStar v && !(foldedForSure 8 u && foldedForSure 8 v) && !(constantsAlone 8 u && constantsAlone 8 v)) = true := h
        obtain ⟨h, h12⟩ := of_and h
        obtain ⟨h, h11⟩ := of_and h
        obtain ⟨h, h10⟩ := of_and h
        obtain ⟨h, h9⟩ := of_and h
        obtain ⟨h, h8⟩ := of_and h
        obtain ⟨h, h7⟩ := of_and h
        obtain ⟨h, h6⟩ := of_and h
        obtain ⟨h, h5⟩ := of_and h
        obtain ⟨h, h4⟩ := of_and h
        obtain ⟨h, h3⟩ := of_and h
        obtain ⟨h, h2⟩ := of_and h
        obtain ⟨h0, h1⟩ := of_and h
        have h0 : S.mode = 0 := by simpa using h0
        have e1 : X.N[i]? = some x := by rw [O.N]; exact of_decide_eq_true h1
        have e2 : X.N[j]? = some y := by rw [O.N]; exact of_decide_eq_true h2
        have ij : i ≠ j := of_decide_eq_true h3
        have hxy : x ≠ y := fun z => by
          subst z
          exact ij (nodup_ix O.nd e1 e2)
        have hx : S.names.lookup x = some .local := of_decide_eq_true h4
        have hy : S.names.lookup y = some .local := of_decide_eq_true h5
        have A : PA X [u, v] (tA X.K W (dArgs [a.den T, b.den T])) := ma_cons (a.ok O.toOkX u h7).1 (ma_cons (b.ok O.toOkX v h8).1 ma_nil (starEach_of h10 _ _)) (starEach_of h9 _ _)
        refine ms_par (es := [u, v]) (ps_par (O.calm h0) O.nd e1 e2 ij (by rw [O.names]; exact hx) (by rw [O.names]; exact hy) A ?_)
        exact swPar O.toOkX hx hy h6 hxy h9 h10 (by rw [Bool.not_eq_true'] at h11; exact h11) (by rw [Bool.not_eq_true'] at h12; exact h12)
    | _ => cases h
  | .par3 i j l a b c, x, h => by
    cases x with
    | Assign ts x p =>
      match ts, x, h with
      | [.Tuple [.Name x px, .Name y py, .Name z pz] k pt], .Tuple [u, v, w] k2 pt2, h =>
        have h : (S.mode == 0 && decide (S.N[i]? = some x) && decide (S.N[j]? = some y) && decide (S.N[l]? = some z) && decide (i ≠ j) && decide (i ≠ l) && decide (j ≠ l) &&
          decide (S.names.lookup x = some .local) && decide (S.names.lookup y = some .local) && decide (S.names.lookup z = some .local) && (px.line == py.line) && (px.line == pz.line) && a.ck T S u && b.ck T S v && c.ck T S w && notStar u && notStar v && notStar w &&
          !(foldedForSure 8 u && (foldedForSure 8 v && foldedForSure 8 w)) && !(constantsAlone 8 u && (constantsAlone 8 v && constantsAlone 8 w))) = true := h
        obtain ⟨h, h19⟩ := of_and h
        obtain ⟨h, h18⟩ := of_and h
        obtain ⟨h, h17⟩ := of_and h
        obtain ⟨h, h16⟩ := of_and h
        obtain ⟨h, h15⟩ := of_and h
        obtain ⟨h, h14⟩ := of_and h
        obtain ⟨h, h13⟩ := of_and h
        obtain ⟨h, h12⟩ := of_and h
        obtain ⟨h, h11⟩ := of_and h
        obtain ⟨h, h10⟩ := of_and h
        obtain ⟨h, h9⟩ := of_and h
        obtain ⟨h, h8⟩ := of_and h
        obtain ⟨h, h7⟩ := of_and h
        obtain ⟨h, h6⟩ := of_and h
        obtain ⟨h, h5⟩ := of_and h
        obtain ⟨h, h4⟩ := of_and h
        obtain ⟨h, h3⟩ := of_and h
        obtain ⟨h, h2⟩ := of_and h
        obtain ⟨h0, h1⟩ := of_and h
        have h0 : S.mode = 0 := by simpa using h0
        have e1 : X.N[i]? = some x := by rw [O.N]; exact of_decide_eq_true h1
        have e2 : X.N[j]? = some y := by rw [O.N]; exact of_decide_eq_true h2
        have e3 : X.N[l]? = some z := by rw [O.N]; exact of_decide_eq_true h3
        have ij : i ≠ j := of_decide_eq_true h4
        have il : i ≠ l := of_decide_eq_true h5
        have jl : j ≠ l := of_decide_eq_true h6
        have hxy : x ≠ y := fun z => by
          subst z
          exact ij (nodup_ix O.nd e1 e2)
        have hxz : x ≠ z := fun z => by
          subst z
          exact il (nodup_ix O.nd e1 e3)
        have hyz : y ≠ z := fun z => by
          subst z
          exact jl (nodup_ix O.nd e2 e3)
        have hx : S.names.lookup x = some .local := of_decide_eq_true h7
        have hy : S.names.lookup y = some .local := of_decide_eq_true h8
        have hz : S.names.lookup z = some .local := of_decide_eq_true h9
        have A : PA X [u, v, w] (tA X.K W (dArgs [a.den T, b.den T, c.den T])) := ma_cons (a.ok O.toOkX u h12).1 (ma_cons (b.ok O.toOkX v h13).1 (ma_cons (c.ok O.toOkX w h14).1 ma_nil (starEach_of h17 _ _)) (starEach_of h16 _ _)) (starEach_of h15 _ _)
        refine ms_par3 (ps_par3 (O.calm h0) O.nd e1 e2 e3 ij il jl (by rw [O.names]; exact hx) (by rw [O.names]; exact hy) (by rw [O.names]; exact hz) A ?_ ?_)
        · exact swPar3 O.toOkX hx hy hz h10 h11 hxy hxz hyz h15 h16 h17 (by rw [Bool.not_eq_true'] at h18; exact h18) (by rw [Bool.not_eq_true'] at h19; exact h19)
        · rfl
    | _ => cases h
  | .own i f, x, h => by
    cases x with
    | Assign ts x p =>
      match ts, h with
      | [.Name n pn], h =>
        have h : (S.st i n && f.ck T S x && (notComp x || (S.mode == 0 && isComp x))) = true := h
        obtain ⟨h, h3⟩ := of_and h
        obtain ⟨h1, h2⟩ := of_and h
        rw [Bool.or_eq_true] at h3
        rcases h3 with h3 | h3
        · obtain ⟨g1, g2⟩ := of_and h1
          exact asg_ow (ps_set O.nd (by rw [O.N]; exact of_decide_eq_true g1) (O.toOkX.loc g2) (f.ok O.toOkX x h2).1 (swaps_of h3 _ _ _) (.inl (O.fn n))) fun σ H Q q => q
        · obtain ⟨h0, h3⟩ := of_and h3
          have h0 : S.mode = 0 := by simpa using h0
          obtain ⟨elt, vs, tg, it, t, rfl⟩ := comp_formF h2 h3
          obtain ⟨te, a, b⟩ := compAsg O h0 (p := pn) (spos := p) h1 h2
          exact asg_ow a b
    | _ => cases h
  | .exp e, x, h => by
    cases x with
    | Expr y p =>
      obtain ⟨h1, h2⟩ := of_and h
      exact ms_exp (e.ok O.toOkX y h1).1 (swaps_of h2 _ _ _)
    | _ => cases h
  | .ext i f, x, h => by
    cases x with
    | Expr y p =>
      match y, h with
      | .Call (.Attribute (.Name n np) m ap) [y] [] cp, h =>
        have h : (S.at i n && decide (m = "extend") && (ap.endLine == cp.line) && f.ck T S y && notStar y) = true := h
        obtain ⟨h, h5⟩ := of_and h
        obtain ⟨h, h4⟩ := of_and h
        obtain ⟨h, h3⟩ := of_and h
        obtain ⟨h1, h2⟩ := of_and h
        have e2 : m = "extend" := of_decide_eq_true h2
        subst e2
        have s := starEach_of h5 [] X.env
        exact ms_ext (O.toOkX.at h1) (f.ok O.toOkX y h4).1 (by rw [s]; rfl) h3 s
    | _ => cases h
  | .ins i ix e, x, h => by
    cases x with
    | Expr y p =>
      match y, h with
      | .Call (.Attribute (.Name n np) m ap) [z, y] [] cp, h =>
        have h : (S.at i n && decide (m = "insert") && (ap.endLine == cp.line) && ix.ck T S z && notStar z && e.ck T S y && notStar y) = true := h
        obtain ⟨h, h7⟩ := of_and h
        obtain ⟨h, h6⟩ := of_and h
        obtain ⟨h, h5⟩ := of_and h
        obtain ⟨h, h4⟩ := of_and h
        obtain ⟨h, h3⟩ := of_and h
        obtain ⟨h1, h2⟩ := of_and h
        have e2 : m = "insert" := of_decide_eq_true h2
        subst e2
        have s := starEach_of h5 [y] X.env
        have s2 := starEach_of h7 [] X.env
        exact ms_ins (O.toOkX.at h1) (ix.ok O.toOkX z h4).1 (e.ok O.toOkX y h6).1 (by rw [s, s2]; rfl) h3 s s2
    | _ => cases h
  | .augI o i ix e, x, h => by
    cases x with
    | AugAssign t op x p =>
      match t, h with
      | .Subscript (.Name n np) y sp, h =>
        have h : (S.at i n && ix.ck T S y && notSlice y && decide (op = augOp o) && e.ck T S x) = true := h
        obtain ⟨h, h5⟩ := of_and h
        obtain ⟨h, h4⟩ := of_and h
        obtain ⟨h, h3⟩ := of_and h
        obtain ⟨h1, h2⟩ := of_and h
        have e2 : op = augOp o := of_decide_eq_true h4
        subst e2
        exact ms_augI o (O.toOkX.at h1) (ix.ok O.toOkX y h2).1 (e.ok O.toOkX x h5).1 (fun ov iv new => by cases y <;> first | rfl | cases h3)
    | _ => cases h
  | .app i e, x, h => by
    cases x with
    | Expr y p =>
      match y, h with
      | .Call (.Attribute (.Name n np) m ap) [y] [] cp, h =>
        have h : (S.at i n && decide (m = "append") && (ap.endLine == cp.line) && e.ck T S y && notStar y) = true := h
        obtain ⟨h, h5⟩ := of_and h
        obtain ⟨h, h4⟩ := of_and h
        obtain ⟨h, h3⟩ := of_and h
        obtain ⟨h1, h2⟩ := of_and h
        have e2 : m = "append" := of_decide_eq_true h2
        subst e2
        have s := starEach_of h5 [] X.env
        exact ms_app (O.toOkX.at h1) (e.ok O.toOkX y h4).1 (by rw [s]; rfl) h3 s
    | _ => cases h
  | .sub i ix e, x, h => by
    cases x with
    | Assign ts x p =>
      match ts, h with
      | [.Subscript (.Name n np) y sp], h =>
        have h : (S.at i n && ix.ck T S y && notSlice y && e.ck T S x && notComp x) = true := h
        obtain ⟨h, h5⟩ := of_and h
        obtain ⟨h, h4⟩ := of_and h
        obtain ⟨h, h3⟩ := of_and h
        obtain ⟨h1, h2⟩ := of_and h
        exact ms_sub (O.toOkX.at h1) (ix.ok O.toOkX y h2).1 (e.ok O.toOkX x h4).1 (swSole h5) rfl (fun v => by cases y <;> first | rfl | cases h3)
    | _ => cases h
  | .aug o i e, x, h => by
    cases x with
    | AugAssign t op x p =>
      cases t with
      | Name n np =>
        have h : (S.st i n && decide (op = augOp o) && e.ck T S x) = true := h
        obtain ⟨h, h3⟩ := of_and h
        obtain ⟨h1, h2⟩ := of_and h
        have e2 : op = augOp o := of_decide_eq_true h2
        subst e2
        obtain ⟨g1, g2⟩ := of_and h1
        exact ms_aug o O.nd (by rw [O.N]; exact of_decide_eq_true g1) (O.toOkX.loc g2) (.inl (O.fn n)) (e.ok O.toOkX x h3).1
      | _ => cases h
    | _ => cases h
  | .ret e, x, h => by
    cases x with
    | Return v p =>
      cases v with
      | none => cases h
      | some v => exact ms_ret (e.ok O.toOkX v h).1
    | _ => cases h
  | .retN, x, h => by
    cases x with
    | Return v p =>
      cases v with
      | none => exact ms_retN
      | some v => cases h
    | _ => cases h
  | .ifs c a b, x, h => by
    cases x with
    | If y xs ys p =>
      have h : (c.ck T S y && a.ck T S xs && b.ck T S ys) = true := h
      obtain ⟨h, h3⟩ := of_and h
      obtain ⟨h1, h2⟩ := of_and h
      exact ms_if (c.ok O.toOkX y h1).2 (a.ok O xs h2) (b.ok O ys h3)
    | _ => cases h
  | .whl ws n c b, x, h => by
    cases x with
    | While y xs ys p =>
      match ys, h with
      | [], h =>
        have h : (S.mode == 0 && c.ck T S y && b.ck T S xs) = true := h
        obtain ⟨h, h2⟩ := of_and h
        obtain ⟨_, h1⟩ := of_and h
        exact ms_whl O.ps (c.ok O.toOkX y h1).2 (b.ok O xs h2)
    | _ => cases h
  | .for ws tg it b, x, h => by
    cases x with
    | For t y xs ys p =>
      match ys, h with
      | [], h =>
        have h : (S.mode == 0 && tg.ck S.st t && it.ck T S y && it.tgk t && notSet y && b.ck T S xs) = true := h
        obtain ⟨h, h4⟩ := of_and h
        obtain ⟨h, h3⟩ := of_and h
        obtain ⟨h, h5⟩ := of_and h
        obtain ⟨h, h2⟩ := of_and h
        obtain ⟨h0, h1⟩ := of_and h
        have h0 : S.mode = 0 := by simpa using h0
        exact ms_for O.ps (O.calm h0) (it.ok O.toOkX y h2 h5) (Tg.ok (.inl (O.calm h0)) h1 fun i x p h => O.nm h) (b.ok O xs h4) (folded_of h3 _)
    | _ => cases h
  | .pass, x, h => by
    cases x with
    | Pass p => exact ms_pass
    | _ => cases h
  | .brk, x, h => by
    cases x with
    | Break p => exact ms_brk
    | _ => cases h
  | .cnt, x, h => by
    cases x with
    | Continue p => exact ms_cnt
    | _ => cases h
  | .retF f, x, h => by
    cases x with
    | Return v p =>
      cases v with
      | none => cases h
      | some v => exact ms_retF (f.ok O.toOkX v h).1
    | _ => cases h
  | .retO i, x, h => by
    cases x with
    | Return v p =>
      cases v with
      | none => cases h
      | some v =>
        cases v with
        | Name n np => exact ms_retO (O.toOkX.at h)
        | _ => cases h
    | _ => cases h
  | .bad, x, h => ms_bad
  | .raise c, x, h => by
    have h : (match getRaise x with
      | some (x, _) => S.mode == 0 && decide (x = exNm c) && S.gl x && decide (c ∈ T.rs)
      | none => false) = true := h
    split at h
    · rename_i x t eg
      obtain ⟨m, px, j, p2, p3, p⟩ := t
      have ex := getRaise_eq eg
      subst ex
      obtain ⟨h, h4⟩ := of_and h
      obtain ⟨h, h3⟩ := of_and h
      obtain ⟨h0, h1⟩ := of_and h
      exact ms_raise O (by simpa using h0) (of_decide_eq_true h1) h3 (of_decide_eq_true h4)
    · cases h
  | .tryA b c i u, x, h => by
    have h : (match getTryA x with
      | some (body, x, _, n, s0, suite, _) => S.mode == 0 && b.ck T S body && clsCk T S c x && decide (S.N[i]? = some n) && decide (S.names.lookup n = some .local) && u.ck T S.suite i (s0 :: suite)
      | none => false) = true := h
    split at h
    · rename_i body x px n s0 suite t eg
      obtain ⟨p2, p⟩ := t
      have ex := getTryA_eq eg
      subst ex
      obtain ⟨h, h6⟩ := of_and h
      obtain ⟨h, h5⟩ := of_and h
      obtain ⟨h, h4⟩ := of_and h
      obtain ⟨h, h3⟩ := of_and h
      obtain ⟨h0, h2⟩ := of_and h
      have h0 : S.mode = 0 := by simpa using h0
      exact tryA_ok O h3 (of_decide_eq_true h4) (of_decide_eq_true h5) (fun X' W' O' => b.ok O' body h2) fun a pn => u.ok O h0 (s0 :: suite) h6
    · cases h
  | .tryN b hs, x, h => by
    have h : (match getTryN x with
      | some (body, h0, hds, _) => S.mode == 0 && b.ck T S body && hs.ck T S (h0 :: hds)
      | none => false) = true := h
    split at h
    · rename_i body h0' hds p eg
      have ex := getTryN_eq eg
      subst ex
      obtain ⟨h, h3⟩ := of_and h
      obtain ⟨h0, h2⟩ := of_and h
      obtain ⟨l, hl, hp⟩ := hs.ok O (h0' :: hds) h3
      exact tryN_ok O (fun X' W' O' => b.ok O' body h2) hl hp
    · cases h
theorem Su.ok {T : Tab} {S : SC} {X : Cx} {W : Wi} (O : OkS T S X W) (h0 : S.mode = 0) {a : Addr} {pn : List (Addr × Obj)} {i : Nat} : ∀ (u : Su) (x : List Stmt), u.ck T S.suite i x = true → PSs (X.suite a pn) x (fun D σ H => σ[i]? = some (some (V.ref a)) ∧ sM X.K (Wi.none W.ct) (u.den T i) D σ H)
  | .ss ss, x, h => PSs_imp (ss.ok (O.suite a pn) x h) fun D σ H q => q.2
  | .retH k es, x, h => by
    have h : (match getRet1 x with
      | some (e, _) => hotCk T S.suite i k es e
      | none => false) = true := h
    split at h
    · rename_i e p eg
      have ex := getRet1_eq eg
      subst ex
      exact suRet O (me_callT O h0 (a := a) (pn := pn) (fun ys hy => es.ok (O.suite a pn).toOkX ys hy) h).1
    · cases h
  | .asgH j k es, x, h => by
    have h : (match getAsg1 x with
      | some (n, _, e, _) => S.suite.st j n && hotCk T S.suite i k es e
      | none => false) = true := h
    split at h
    · rename_i n np e p eg
      have ex := getAsg1_eq eg
      subst ex
      obtain ⟨h1, h2⟩ := of_and h
      obtain ⟨he, nc, _⟩ := me_callT O h0 (a := a) (pn := pn) (fun ys hy => es.ok (O.suite a pn).toOkX ys hy) h2
      exact suAsg O he h1 nc
    · cases h
  | .rtnH k es, x, h => by
    have h : (match getRtn1 x with
      | some (_, _, e, _) => hotCk T S.suite i k es e
      | none => false) = true := h
    split at h
    · rename_i j2 p2 e t eg
      obtain ⟨k2, p3, p⟩ := t
      have ex := getRtn1_eq eg
      subst ex
      obtain ⟨he, _, ns⟩ := me_callT O h0 (a := a) (pn := pn) (fun ys hy => es.ok (O.suite a pn).toOkX ys hy) h
      exact suRtn O he ns
    · cases h
theorem Hs.ok {T : Tab} {S : SC} {X : Cx} {W : Wi} (O : OkS T S X W) : ∀ (hs : Hs) (x : List ExceptHandler), hs.ck T S x = true → ∃ l, L2N.HdsOk X x l ∧
    Paired (fun (p : Value × (Addr → Value → Option Addr → TS)) (h : Nat × SDen) => p.1 = .ref (ctOf X.K h.1) ∧ h.1 ∈ T.qs ∧ h.1 ≠ 15 ∧ ∀ a cls d D σ H, sM X.K (Wi.none W.ct) h.2 D σ H → p.2 a cls d D σ H) l (hs.den T)
  | .nil, x, h => by
    cases x with
    | nil => exact ⟨[], .nil, .nil⟩
    | cons _ _ => cases h
  | .cons c ss hs, x, h => by
    cases x with
    | nil => cases h
    | cons x r =>
      have h : ((match getH x with
        | some (x, _, s0, suite, _) => clsCk T S c x && ss.ck T S.suite (s0 :: suite)
        | none => false) && hs.ck T S r) = true := h
      obtain ⟨g, h3⟩ := of_and h
      clear h
      split at g
      · rename_i x px s0 suite p eg
        have ex := getH_eq eg
        subst ex
        obtain ⟨h1, h2⟩ := of_and g
        obtain ⟨nm, hc, hn⟩ := clsNames O.toOkX h1
        obtain ⟨l, a, b⟩ := hs.ok O r h3
        exact ⟨(.ref (ctOf X.K c), fun _ _ _ => sM X.K (Wi.none W.ct) (ss.den T)) :: l, .cons nm (fun a oe cls d pn _ _ => ss.ok (O.suite a ((a, oe) :: pn)) (s0 :: suite) h2) a, .cons ⟨rfl, hc, hn, fun _ _ _ _ _ _ z => z⟩ b⟩
      · cases g
theorem Ss.ok {T : Tab} {S : SC} {X : Cx} {W : Wi} (O : OkS T S X W) : ∀ (s : Ss) (x : List Stmt), s.ck T S x = true → PSs X x (sM X.K W (s.den T))
  | .nil, x, h => by
    cases x with
    | nil => exact ms_nil
    | cons _ _ => cases h
  | .cons s ss, x, h => by
    cases x with
    | nil => cases h
    | cons x xs =>
      obtain ⟨h1, h2⟩ := of_and h
      exact ms_cons (s.ok O x h1) (ss.ok O xs h2)
end
end Z

namespace Z
open PySem PySem.Spec PyProof.Rows L2
/-- a def by slots -/
structure Df where
  name : Str
  N : List Str
  ar : Nat
  body : Ss
def endD (r : RS) : RD :=
  match r with
  | .rt d _ => .ok d
  | .ro o _ => .ow o
  | .nx _ => .ok .non
  | .rz c _ => .rz c
  | _ => .bad
def runD (T : Tab) (d : Df) (ds : List D) : RD := endD (d.body.den T (ds.map Sl.va ++ List.replicate (d.N.length - d.ar) Sl.no))
theorem start_rl {K : PySem.W.Frag} {H0 H : Hp} {vs : List V} {ds : List D} {N : List Str} {n : Nat} (s : Same H0 H) (r : Reps K H0 vs ds) (hl : ds.length = n) :
    Rl K ⟨H, H0, []⟩ (ds.map Sl.va ++ List.replicate (N.length - n) Sl.no) (L2.start N vs) H0 H := by
  have hv := r.length
  refine ⟨s, Same.refl _, Same.refl _, fun _ _ => rfl, ?_, fun i t x e1 e2 => ?_, fun i j t u a ne e1 e2 o1 o2 _ _ => ?_, fun i a h => by cases h⟩
  · unfold L2.start
    rw [List.length_append, List.length_append, List.length_map, List.length_map, List.length_replicate, List.length_replicate, hv, hl]
  · by_cases hi : i < ds.length
    · rw [List.getElem?_append_left (by rw [List.length_map]; exact hi), List.getElem?_map, List.getElem?_eq_getElem hi] at e1
      cases e1
      obtain ⟨v, hv2, rv⟩ := r.get (List.getElem?_eq_getElem hi)
      unfold L2.start at e2
      rw [List.getElem?_append_left (by rw [List.length_map, hv]; exact hi), List.getElem?_map, hv2] at e2
      cases e2
      exact ⟨v, rfl, rv⟩
    · rw [List.getElem?_append_right (by rw [List.length_map]; omega), List.getElem?_replicate] at e1
      split at e1
      · cases e1; trivial
      · cases e1
  · by_cases hi : i < ds.length
    · rw [List.getElem?_append_left (by rw [List.length_map]; exact hi), List.getElem?_map, List.getElem?_eq_getElem hi] at e1
      cases e1
      cases o1
    · rw [List.getElem?_append_right (by rw [List.length_map]; omega), List.getElem?_replicate] at e1
      split at e1
      · cases e1; cases o1
      · cases e1
section
variable {P : Program} {w : World} {K : PySem.W.Frag} {mg : Str → Option Value} {base : Heap} {ct : Nat → Addr}
theorem room65 {k : Nat} {A : Around} (r : Room k A) : A.units + 65 < cLine := by have := r.un; omega
/-- it stands ready at a level -/
def ReadyAtH (P : Program) (w : World) (K : PySem.W.Frag) (mg : Str → Option Value) (base : Heap) (ct : Nat → Addr) (lv : Nat) (p : Fd) : Prop :=
  ∃ (f : Addr) (fd : FuncData) (ps : List Str), FnT P w K mg base lv f fd ps (spD K ct p.ar p.sem) ∧ mg p.name = some (.ref f) ∧ PySem.W.keepIn K (.ref f) = true ∧ Binds K fd ps []
theorem ReadyAtH.up {P : Program} {w : World} {K : PySem.W.Frag} {mg : Str → Option Value} {base : Heap} {ct : Nat → Addr} {lv lv' : Nat} {p : Fd} (h : ReadyAtH P w K mg base ct lv p) (l : lv ≤ lv') : ReadyAtH P w K mg base ct lv' p := by
  obtain ⟨f, fd, ps, F, a⟩ := h
  exact ⟨f, fd, ps, F.mono l, a⟩
def ReadyAt (P : Program) (w : World) (K : PySem.W.Frag) (mg : Str → Option Value) (base : Heap) (ct : Nat → Addr) (lv : Nat) (p : Fd) : Prop :=
  ∃ (f : Addr) (fd : FuncData) (ps : List Str), FnOk P w K mg base (L2N.CX P w) lv f fd ps (spF K ct p) ∧ mg p.name = some (.ref f) ∧ PySem.W.keepIn K (.ref f) = true ∧ Binds K fd ps []
theorem ReadyAt.up {lv lv' : Nat} {p : Fd} (h : ReadyAt P w K mg base ct lv p) (l : lv ≤ lv') : ReadyAt P w K mg base ct lv' p := by
  obtain ⟨f, fd, ps, F, a⟩ := h
  exact ⟨f, fd, ps, F.mono l, a⟩
/-- what the module has beside its defs -/
structure Top (K : PySem.W.Frag) (mg : Str → Option Value) (T : Tab) : Prop where
  exc : ∀ c ∈ T.rs, ExcK K mg T.qs c
  ask : ∀ d ∈ T.qs, d ≠ 15 → mg (exNm d) = some (.ref (ctOf K d)) ∧ (exNm d == ("__debug__" : Str)) = false
  bi : ∀ x ∈ T.bis, mg x = none
  glo : ∀ (k : Nat) (p : Str × D), T.cons[k]? = some p → ∃ u v, mg p.1 = some u ∧ RelV v u ∧ ∀ H, Rep K H v p.2
def scCk (N P : List Str) (sc : Scope) : Bool :=
  (match sc.kind with | .function => true | _ => false) && !sc.isCoroutine && !sc.isGenerator && decide N.Nodup && decide (N.take P.length = P) && P.all (fun x => decide (sc.names.lookup x = some .local) || decide (sc.names.lookup x = some .cell)) && sc.names.all (fun y => !decide (y.2 = .free))
theorem fnScope_ck {N P : List Str} {sc : Scope} (h : scCk N P sc = true) : FnScope N P sc := by
  unfold scCk at h
  simp only [Bool.and_eq_true, Bool.not_eq_true', decide_eq_true_eq, List.all_eq_true, Bool.or_eq_true, decide_eq_false_iff_not] at h
  obtain ⟨⟨⟨⟨⟨⟨h1, h2⟩, h3⟩, h4⟩, h5⟩, h6⟩, h7⟩ := h
  refine ⟨?_, h2, h3, h4, h5, h6, h7⟩
  split at h1
  · assumption
  · cases h1
/-- the look at a def -/
def Df.ck (T : Tab) (d : Df) (st : Stmt) : Bool := decide (d.ar ≤ d.N.length) && scCk d.N (d.N.take d.ar) (defScope st) && d.body.ck T ⟨d.N, (defScope st).names, 0⟩ (defBody st)
theorem def_ok {T : Tab} {d : Df} {st : Stmt} {qual : Str} {f : Addr} {fd : FuncData} {lv : Nat} (F : Fun K d.name qual st f fd) (tp : Top K mg T) (hct : ct = ctOf K) (cl : ∀ p ∈ T.fns, ReadyAt P w K mg base ct lv p) (hcl : ∀ p ∈ T.hfns, ReadyAtH P w K mg base ct lv p) (ck : d.ck T st = true) :
    FnOk P w K mg base (L2N.CX P w) (lv + 1) f fd (d.N.take d.ar) (spD K ct d.ar (runD T d)) := by
  obtain ⟨c1, c3⟩ := of_and ck
  obtain ⟨c1, c2⟩ := of_and c1
  have c1 : d.ar ≤ d.N.length := of_decide_eq_true c1
  have sc := fnScope_ck c2
  refine okN F sc (fun vs H Q E h => ?_) (fun cdv A outer s H vs Q E hr h => ?_)
  · obtain ⟨H0, ds, _, r, hl, _⟩ := h
    rw [r.length, hl, List.length_take]
    omega
  · obtain ⟨H0, ds, s0, r, hl, q⟩ := h
    have O : OkS T ⟨d.N, (defScope st).names, 0⟩ (cxOf (L2N.CX P w) P w K mg base d.N qual (defScope st) f cdv A outer s H E) ⟨fun cls dd _ H => E cls dd H, ct⟩ := by
      refine { N := rfl, nd := sc.nd, names := rfl, kind := sc.kind, calm := fun _ => rfl, hot := fun e => absurd (show (0 : Nat) = 1 from e) (by decide), hu := room65 hr, tk := ?_, call := fun _ k p e => ?_, ct := hct, exc := tp.exc, ask := tp.ask, bi := tp.bi, glo := tp.glo, ps := ?_, fn := fun _ => rfl, ex := rfl, stk := rfl, frm := rfl, hcall := fun _ k p e => ?_ }
      · exact L2N.takes_of rfl rfl rfl rfl
      · obtain ⟨f', fd', ps', F', a, b, c⟩ := cl p (List.mem_of_getElem? e)
        exact ⟨lv, f', fd', ps', F', hr, a, b, c⟩
      · exact passes_of rfl
      · obtain ⟨f', fd', ps', F', a, b, c⟩ := hcl p (List.mem_of_getElem? e)
        exact ⟨lv, f', fd', ps', F', L2H.roomH_of hr, a, b, c⟩
    refine ⟨_, d.body.ok O (defBody st) c3, ⟨H, H0, []⟩, _, H0, start_rl s0 r hl, ?_⟩
    unfold runD at q
    cases e : d.body.den T (ds.map Sl.va ++ List.replicate (d.N.length - d.ar) Sl.no) with
    | rt z δ =>
      rw [e] at q
      exact fun v σ' H1 H' R s' rv => q v H1 H' ⟨R.he, R.hf, R.hs, R.hn⟩ rv
    | ro z δ =>
      rw [e] at q
      exact fun a σ' H1 H' R s' n0 ne w nw => q a H1 H' ⟨R.he, R.hf, R.hs, R.hn⟩ ne n0 w
    | nx δ =>
      rw [e] at q
      exact fun σ' H1 H' R s' => q .non H1 H' ⟨R.he, R.hf, R.hs, R.hn⟩ .non
    | rz c δ =>
      rw [e] at q
      exact fun cls dd σ' H1 H' R s' x => q cls dd H1 H' ⟨R.he, R.hf, R.hs, R.hn⟩ x
    | bk δ => rw [e] at q; exact q.elim
    | ct δ => rw [e] at q; exact q.elim
    | bad => rw [e] at q; exact q.elim
/-! ### a def that is called while an exception is handled -/
def Df.ckH (T : Tab) (d : Df) (st : Stmt) : Bool := decide (d.ar ≤ d.N.length) && scCk d.N (d.N.take d.ar) (defScope st) && d.body.ck T ⟨d.N, (defScope st).names, 1⟩ (defBody st)
theorem def_okT {T : Tab} {d : Df} {st : Stmt} {qual : Str} {f : Addr} {fd : FuncData} {lv : Nat} (F : Fun K d.name qual st f fd) (tp : Top K mg T) (hct : ct = ctOf K) (ck : d.ckH T st = true) : FnT P w K mg base (lv + 1) f fd (d.N.take d.ar) (spD K ct d.ar (runD T d)) := by
  obtain ⟨c1, c3⟩ := of_and ck
  obtain ⟨c1, c2⟩ := of_and c1
  have c1 : d.ar ≤ d.N.length := of_decide_eq_true c1
  have sc := fnScope_ck c2
  refine okT F sc (fun vs H Q E h => ?_) (fun cdv A outer s H vs Q E hr hot h => ?_)
  · obtain ⟨H0, ds, _, r, hl, _⟩ := h
    rw [r.length, hl, List.length_take]
    omega
  · obtain ⟨H0, ds, s0, r, hl, q⟩ := h
    have O : OkS T ⟨d.N, (defScope st).names, 1⟩ (cxT P w K mg base d.N qual (defScope st) f cdv A outer s H E) ⟨fun cls dd _ H => E cls dd H, ct⟩ := by
      refine { N := rfl, nd := sc.nd, names := rfl, kind := sc.kind, calm := fun e => absurd (show (1 : Nat) = 0 from e) (by decide), hot := fun _ => hot, hu := (show (A.deeper (envOfC qual (defScope st) s.heap.objs.size f cdv)).units + 65 < cLine from by have := hr.un; omega), tk := ?_, call := fun e => absurd (show (1 : Nat) = 0 from e) (by decide), ct := hct, exc := tp.exc, ask := tp.ask, bi := tp.bi, glo := tp.glo, ps := ?_, fn := fun _ => rfl, ex := rfl, stk := rfl, frm := rfl, hcall := fun e => absurd (show (1 : Nat) = 0 from e) (by decide) }
      · exact L2N.takes_of rfl rfl rfl rfl
      · exact passes_of rfl
    refine ⟨_, d.body.ok O (defBody st) c3, ⟨H, H0, []⟩, _, H0, start_rl s0 r hl, ?_⟩
    unfold runD at q
    cases e : d.body.den T (ds.map Sl.va ++ List.replicate (d.N.length - d.ar) Sl.no) with
    | rt z δ => rw [e] at q; exact fun v σ' H1 H' R s' rv => q v H1 H' ⟨R.he, R.hf, R.hs, R.hn⟩ rv
    | ro z δ => rw [e] at q; exact fun a σ' H1 H' R s' n0 ne w nw => q a H1 H' ⟨R.he, R.hf, R.hs, R.hn⟩ ne n0 w
    | nx δ => rw [e] at q; exact fun σ' H1 H' R s' => q .non H1 H' ⟨R.he, R.hf, R.hs, R.hn⟩ .non
    | rz c δ => rw [e] at q; exact fun cls dd σ' H1 H' R s' x => q cls dd H1 H' ⟨R.he, R.hf, R.hs, R.hn⟩ x
    | bk δ => rw [e] at q; exact q.elim
    | ct δ => rw [e] at q; exact q.elim
    | bad => rw [e] at q; exact q.elim
theorem ready_H {T : Tab} {d : Df} {st : Stmt} {qual nm : Str} {f : Addr} {fd : FuncData} {lv : Nat} {fns : List Fd} (F : Fun K d.name qual st f fd) (hm : mg nm = some (.ref f)) (hb : Binds K fd (d.N.take d.ar) []) (tp : Top K mg T) (hct : ct = ctOf K) (ck : d.ckH T st = true)
    (r : ∀ p ∈ fns, ReadyAtH P w K mg base ct (lv + 1) p) : ∀ p ∈ (⟨nm, d.ar, none, runD T d⟩ : Fd) :: fns, ReadyAtH P w K mg base ct (lv + 1) p := fun p hp => by
  rcases List.mem_cons.mp hp with e | e
  · subst e
    exact ⟨f, fd, _, def_okT F tp hct ck, hm, F.kp, hb⟩
  · exact r p e
theorem ready_upH {fns : List Fd} {lv : Nat} (r : ∀ p ∈ fns, ReadyAtH P w K mg base ct lv p) : ∀ p ∈ fns, ReadyAtH P w K mg base ct (lv + 1) p := fun p hp => (r p hp).up (Nat.le_succ _)
/-- one def more -/
theorem ready_cons {T : Tab} {d : Df} {st : Stmt} {qual : Str} {f : Addr} {fd : FuncData} {lv : Nat} (F : Fun K d.name qual st f fd) (hm : mg d.name = some (.ref f)) (hb : Binds K fd (d.N.take d.ar) []) (tp : Top K mg T) (hct : ct = ctOf K) (cl : ∀ p ∈ T.fns, ReadyAt P w K mg base ct lv p) (hcl : ∀ p ∈ T.hfns, ReadyAtH P w K mg base ct lv p) (ck : d.ck T st = true) :
    ∀ p ∈ (⟨d.name, d.ar, none, runD T d⟩ : Fd) :: T.fns, ReadyAt P w K mg base ct (lv + 1) p := fun p hp => by
  rcases List.mem_cons.mp hp with e | e
  · subst e
    exact ⟨f, fd, _, def_ok F tp hct cl hcl ck, hm, F.kp, hb⟩
  · exact (cl p e).up (Nat.le_succ _)
/-- an other name of a def -/
theorem ready_as {T : Tab} {d : Df} {st : Stmt} {qual nm : Str} {f : Addr} {fd : FuncData} {lv : Nat} {fns : List Fd} (F : Fun K d.name qual st f fd) (hm : mg nm = some (.ref f)) (hb : Binds K fd (d.N.take d.ar) []) (tp : Top K mg T) (hct : ct = ctOf K) (cl : ∀ p ∈ T.fns, ReadyAt P w K mg base ct lv p) (hcl : ∀ p ∈ T.hfns, ReadyAtH P w K mg base ct lv p) (ck : d.ck T st = true)
    (r : ∀ p ∈ fns, ReadyAt P w K mg base ct (lv + 1) p) : ∀ p ∈ (⟨nm, d.ar, none, runD T d⟩ : Fd) :: fns, ReadyAt P w K mg base ct (lv + 1) p := fun p hp => by
  rcases List.mem_cons.mp hp with e | e
  · subst e
    exact ⟨f, fd, _, def_ok F tp hct cl hcl ck, hm, F.kp, hb⟩
  · exact r p e
/-! ### a def that writes at one of its parameters -/
def endP (q : Nat) (r : RS) : RD :=
  match r with
  | .rt d δ => (match δ[q]? with
    | some (.pi o) => .okp d o
    | _ => .bad)
  | .ro r δ => (match δ[q]? with
    | some (.pi o) => .owp r o
    | _ => .bad)
  | .nx δ => (match δ[q]? with
    | some (.pi o) => .okp .non o
    | _ => .bad)
  | _ => .bad
def toO : D → Option O
  | .lst ds => some (.lst ds)
  | .dic ks ds => some (.dic ks ds)
  | _ => none
def runPK (T : Tab) (d : Df) (q : Nat) (ds : List D) (o : Option O) : RD :=
  match o with
  | some o => endP q (d.body.den T ((ds.map Sl.va ++ List.replicate (d.N.length - d.ar) Sl.no).set q (.pi o)))
  | none => .bad
def runP (T : Tab) (d : Df) (q : Nat) (ds : List D) : RD := runPK T d q ds (ds[q]?.bind toO)
theorem toO_own (o : O) : toO (ownD o) = some o := by cases o <;> rfl
theorem start_rlP {K : PySem.W.Frag} {H0 H : Hp} {vs : List V} {ds : List D} {N : List Str} {n q : Nat} {a : Addr} {o : O} (s : Same H0 H) (hv : vs.length = n) (hl : ds.length = n) (hq : vs[q]? = some (.ref a)) (n0 : H0 a = none) (w : OwnAt K H0 H a o)
    (r : ∀ j v d, j ≠ q → vs[j]? = some v → ds[j]? = some d → Rep K H0 v d) :
    Rl K ⟨fun b => if b = a then none else H b, H0, [(q, a)]⟩ ((ds.map Sl.va ++ List.replicate (N.length - n) Sl.no).set q (.pi o)) (L2.start N vs) H0 H := by
  have hql : q < vs.length := (List.getElem?_eq_some_iff.mp hq).1
  have sq : (L2.start N vs)[q]? = some (some (V.ref a)) := by
    unfold L2.start
    rw [List.getElem?_append_left (by rw [List.length_map]; exact hql), List.getElem?_map, hq]
    rfl
  have len : (ds.map Sl.va ++ List.replicate (N.length - n) Sl.no).length = (L2.start N vs).length := by
    unfold L2.start
    rw [List.length_append, List.length_append, List.length_map, List.length_map, List.length_replicate, List.length_replicate, hv, hl]
  have dq : ((ds.map Sl.va ++ List.replicate (N.length - n) Sl.no).set q (.pi o))[q]? = some (.pi o) := List.getElem?_set_self (by rw [List.length_append, List.length_map]; omega)
  have noOwn : ∀ (j : Nat) (t : Sl), (ds.map Sl.va ++ List.replicate (N.length - n) Sl.no)[j]? = some t → isOwn t = false := fun j t e => by
    by_cases hi : j < ds.length
    · rw [List.getElem?_append_left (by rw [List.length_map]; exact hi), List.getElem?_map, List.getElem?_eq_getElem hi] at e
      cases e; rfl
    · rw [List.getElem?_append_right (by rw [List.length_map]; omega), List.getElem?_replicate] at e
      split at e
      · cases e; rfl
      · cases e
  refine ⟨s, fun b u e => ?_, Same.refl _, fun b e => rfl, by rw [List.length_set, len], fun i t x e1 e2 => ?_, fun i j t u c ne e1 e2 o1 o2 _ _ => ?_, fun i c h => ?_⟩
  · by_cases hb : b = a
    · simp only [hb, if_true] at e; cases e
    · simp only [hb, if_false] at e; exact e
  · by_cases hi : i = q
    · subst hi
      rw [dq] at e1; cases e1
      rw [sq] at e2; cases e2
      exact ⟨a, rfl, n0, by simp, w, by simp⟩
    · rw [List.getElem?_set_ne (Ne.symm hi)] at e1
      by_cases hl2 : i < ds.length
      · rw [List.getElem?_append_left (by rw [List.length_map]; exact hl2), List.getElem?_map, List.getElem?_eq_getElem hl2] at e1
        cases e1
        have hvl : i < vs.length := by omega
        unfold L2.start at e2
        rw [List.getElem?_append_left (by rw [List.length_map]; exact hvl), List.getElem?_map, List.getElem?_eq_getElem hvl] at e2
        cases e2
        exact ⟨vs[i], rfl, r i _ _ hi (List.getElem?_eq_getElem hvl) (List.getElem?_eq_getElem hl2)⟩
      · rw [List.getElem?_append_right (by rw [List.length_map]; omega), List.getElem?_replicate] at e1
        split at e1
        · cases e1; trivial
        · cases e1
  · have key : ∀ {j : Nat} {t : Sl}, ((ds.map Sl.va ++ List.replicate (N.length - n) Sl.no).set q (.pi o))[j]? = some t → isOwn t = true → j = q := fun {j t} e ho => by
      by_cases hj : j = q
      · exact hj
      · rw [List.getElem?_set_ne (Ne.symm hj)] at e
        rw [noOwn j t e] at ho; cases ho
    exact absurd (by rw [key e1 o1, key e2 o2]) ne
  · simp only [List.mem_singleton] at h
    cases h
    exact ⟨o, dq, sq⟩
theorem def_okP {T : Tab} {d : Df} {st : Stmt} {qual : Str} {f : Addr} {fd : FuncData} {lv q : Nat} (F : Fun K d.name qual st f fd) (tp : Top K mg T) (hct : ct = ctOf K) (cl : ∀ p ∈ T.fns, ReadyAt P w K mg base ct lv p) (hcl : ∀ p ∈ T.hfns, ReadyAtH P w K mg base ct lv p) (ck : d.ck T st = true) :
    FnOk P w K mg base (L2N.CX P w) (lv + 1) f fd (d.N.take d.ar) (spP K d.ar q (runP T d q)) := by
  obtain ⟨c1, c3⟩ := of_and ck
  obtain ⟨c1, c2⟩ := of_and c1
  have c1 : d.ar ≤ d.N.length := of_decide_eq_true c1
  have sc := fnScope_ck c2
  refine okN F sc (fun vs H Q E h => ?_) (fun cdv A outer s H vs Q E hr h => ?_)
  · obtain ⟨H0, ds, a, o, _, hl, _⟩ := h
    rw [hl, List.length_take]
    omega
  · obtain ⟨H0, ds, a, o, s0, hl, hl2, hq, hdq, n0, ow, r, z⟩ := h
    have O : OkS T ⟨d.N, (defScope st).names, 0⟩ (cxOf (L2N.CX P w) P w K mg base d.N qual (defScope st) f cdv A outer s H E) ⟨fun cls dd _ H => E cls dd H, ct⟩ := by
      refine { N := rfl, nd := sc.nd, names := rfl, kind := sc.kind, calm := fun _ => rfl, hot := fun e => absurd (show (0 : Nat) = 1 from e) (by decide), hu := room65 hr, tk := ?_, call := fun _ k p e => ?_, ct := hct, exc := tp.exc, ask := tp.ask, bi := tp.bi, glo := tp.glo, ps := ?_, fn := fun _ => rfl, ex := rfl, stk := rfl, frm := rfl, hcall := fun _ k p e => ?_ }
      · exact L2N.takes_of rfl rfl rfl rfl
      · obtain ⟨f', fd', ps', F', a, b, c⟩ := cl p (List.mem_of_getElem? e)
        exact ⟨lv, f', fd', ps', F', hr, a, b, c⟩
      · exact passes_of rfl
      · obtain ⟨f', fd', ps', F', a, b, c⟩ := hcl p (List.mem_of_getElem? e)
        exact ⟨lv, f', fd', ps', F', L2H.roomH_of hr, a, b, c⟩
    refine ⟨_, d.body.ok O (defBody st) c3, ⟨fun b => if b = a then none else H b, H0, [(q, a)]⟩, _, H0, start_rlP s0 hl hl2 hq n0 ow r, ?_⟩
    have e0 : runP T d q ds = endP q (d.body.den T ((ds.map Sl.va ++ List.replicate (d.N.length - d.ar) Sl.no).set q (.pi o))) := by
      unfold runP
      rw [hdq]
      show runPK T d q ds (toO (ownD o)) = _
      rw [toO_own]
      rfl
    rw [e0] at z
    have ha : H a ≠ none := ow.some_
    -- what stands at the end
    have fin : ∀ {δ : En} {σ' : L2.St} {H1 H' : Hp} {o' : Z.O}, Rl K ⟨fun b => if b = a then none else H b, H0, [(q, a)]⟩ δ σ' H1 H' → δ[q]? = some (.pi o') → GrP a H0 H H1 H' ∧ H1 a = none ∧ OwnAt K H1 H' a o' ∧ σ'[q]? = some (some (V.ref a)) := fun {δ σ' H1 H' o'} R e => by
      obtain ⟨o2, p1, p2⟩ := R.pn q a (by simp)
      rw [e] at p1; cases p1
      obtain ⟨c, p3, m0, _, ww, _⟩ := R.sl q _ _ e p2
      cases p3
      refine ⟨⟨fun b u hb e => R.he b u (by simp only [hb, if_false]; exact e), R.hf, R.hs, fun b e => ?_⟩, m0, ww, p2⟩
      by_cases hb : b = a
      · rw [hb, m0, n0]
      · exact R.hn b (by simp only [hb, if_false]; exact e)
    cases e : d.body.den T ((ds.map Sl.va ++ List.replicate (d.N.length - d.ar) Sl.no).set q (.pi o)) with
    | rt v δ =>
      rw [e] at z
      cases eq : δ[q]? with
      | none => simp only [endP, eq] at z
      | some t =>
        cases t with
        | pi o' =>
          simp only [endP, eq] at z
          exact fun u σ' H1 H' R s' rv => by
            obtain ⟨g1, g2, g3, _⟩ := fin R eq
            exact z u H1 H' g1 g2 g3 rv
        | _ => simp only [endP, eq] at z
    | ro v δ =>
      rw [e] at z
      cases eq : δ[q]? with
      | none => simp only [endP, eq] at z
      | some t =>
        cases t with
        | pi o' =>
          simp only [endP, eq] at z
          exact fun b σ' H1 H' R s' m0 ne ww nw => by
            obtain ⟨g1, g2, g3, g4⟩ := fin R eq
            have hb : b ≠ a := fun zz => by
              subst zz
              exact nw q _ eq rfl g4
            refine z b H1 H' g1 g2 g3 ?_ m0 ww
            simp only [hb, if_false] at ne
            exact ne
        | _ => simp only [endP, eq] at z
    | nx δ =>
      rw [e] at z
      cases eq : δ[q]? with
      | none => simp only [endP, eq] at z
      | some t =>
        cases t with
        | pi o' =>
          simp only [endP, eq] at z
          exact fun σ' H1 H' R s' => by
            obtain ⟨g1, g2, g3, _⟩ := fin R eq
            exact z .non H1 H' g1 g2 g3 .non
        | _ => simp only [endP, eq] at z
    | rz c δ => rw [e] at z; exact z.elim
    | bk δ => rw [e] at z; exact z.elim
    | ct δ => rw [e] at z; exact z.elim
    | bad => rw [e] at z; exact z.elim
/-- one def more, by any name -/
theorem ready_consP {T : Tab} {d : Df} {st : Stmt} {qual nm : Str} {f : Addr} {fd : FuncData} {lv q : Nat} {fns : List Fd} (F : Fun K d.name qual st f fd) (hm : mg nm = some (.ref f)) (hb : Binds K fd (d.N.take d.ar) []) (tp : Top K mg T) (hct : ct = ctOf K) (cl : ∀ p ∈ T.fns, ReadyAt P w K mg base ct lv p) (hcl : ∀ p ∈ T.hfns, ReadyAtH P w K mg base ct lv p) (ck : d.ck T st = true)
    (r : ∀ p ∈ fns, ReadyAt P w K mg base ct (lv + 1) p) : ∀ p ∈ (⟨nm, d.ar, some q, runP T d q⟩ : Fd) :: fns, ReadyAt P w K mg base ct (lv + 1) p := fun p hp => by
  rcases List.mem_cons.mp hp with e | e
  · subst e
    exact ⟨f, fd, _, def_okP F tp hct cl hcl ck, hm, F.kp, hb⟩
  · exact r p e
theorem ready_up {fns : List Fd} {lv : Nat} (r : ∀ p ∈ fns, ReadyAt P w K mg base ct lv p) : ∀ p ∈ fns, ReadyAt P w K mg base ct (lv + 1) p := fun p hp => (r p hp).up (Nat.le_succ _)
/-! ### what the module says of the classes -/
def exTail : List Value := [.type "ValueError", .type "Exception", .type "BaseException", .type "object"]
def excCk (K : PySem.W.Frag) (qs : List Nat) (c : Nat) : Bool :=
  (PySem.W.nsIn K mainGlobals (exNm c) == some (some (.ref (ctOf K c)))) && PySem.W.keepIn K (.ref (ctOf K c)) && PySem.W.excIn K (ctOf K c) exTail "ValueError.__new__" &&
    (PySem.W.findIn K (.ref (ctOf K c)) "__getattribute__" == some (some (.builtin "BaseException.__getattribute__"))) && (PySem.W.findIn K (.ref (ctOf K c)) "__getattr__" == some none) && (PySem.W.subIn K (.ref (ctOf K c)) (.type "BaseException") == some true) &&
    PySem.W.hasDictIn K (ctOf K c) && (PySem.W.findIn K (.ref (ctOf K c)) "__class__" == some (some (.builtin "object.__class__"))) && (PySem.W.specialIn K (.builtin "object.__class__") "__get__" == some (some (.builtin "getset_descriptor.__get__"))) &&
    (PySem.W.takesIn K (.builtin "object.__class__") == some true) && (PySem.W.mroIn K (ctOf K c) (.type "object") == some true) && (PySem.W.typeIn K (.ref (ctOf K c)) == some (.type "type")) && !(exNm c == ("__debug__" : Str)) &&
    qs.all (fun d => (PySem.W.kitOne K (.ref (ctOf K c)) (clsV K d) == some (subE c d)) && (d == 15 || (PySem.W.exmOne K (.ref (ctOf K c)) (clsV K d) == some (subE c d))))
def askCk (K : PySem.W.Frag) (d : Nat) : Bool := d == 15 || ((PySem.W.nsIn K mainGlobals (exNm d) == some (some (.ref (ctOf K d)))) && !(exNm d == ("__debug__" : Str)))
def excTab (K : PySem.W.Frag) (rs qs : List Nat) : Bool := rs.all (excCk K qs) && qs.all (askCk K)
theorem exc_of {h : Heap} (X : K.In h) (G : h.Ns mainGlobals mg) {qs : List Nat} {c : Nat} (ck : excCk K qs c = true) : ExcK K mg qs c := by
  unfold excCk at ck
  obtain ⟨ck, h14⟩ := of_and ck
  obtain ⟨ck, h13⟩ := of_and ck
  obtain ⟨ck, h12⟩ := of_and ck
  obtain ⟨ck, h11⟩ := of_and ck
  obtain ⟨ck, h10⟩ := of_and ck
  obtain ⟨ck, h9⟩ := of_and ck
  obtain ⟨ck, h8⟩ := of_and ck
  obtain ⟨ck, h7⟩ := of_and ck
  obtain ⟨ck, h6⟩ := of_and ck
  obtain ⟨ck, h5⟩ := of_and ck
  obtain ⟨ck, h4⟩ := of_and ck
  obtain ⟨ck, h3⟩ := of_and ck
  obtain ⟨h1, h2⟩ := of_and ck
  have al := List.all_eq_true.mp h14
  refine ⟨PySem.W.mg_of X G (beq_iff_eq.mp h1), h2, h3, ⟨beq_iff_eq.mp h4, beq_iff_eq.mp h5, beq_iff_eq.mp h6, h7, beq_iff_eq.mp h8, beq_iff_eq.mp h9, beq_iff_eq.mp h10, beq_iff_eq.mp h11⟩, beq_iff_eq.mp h12, by rw [Bool.not_eq_true'] at h13; exact h13, fun d hd => ?_, fun d hd n => ?_⟩
  · exact beq_iff_eq.mp (of_and (al d hd)).1
  · have z := (of_and (al d hd)).2
    rw [Bool.or_eq_true] at z
    rcases z with z | z
    · exact absurd (beq_iff_eq.mp z) n
    · exact beq_iff_eq.mp z
theorem ask_of {h : Heap} (X : K.In h) (G : h.Ns mainGlobals mg) {d : Nat} (ck : askCk K d = true) (n : d ≠ 15) : mg (exNm d) = some (.ref (ctOf K d)) ∧ (exNm d == ("__debug__" : Str)) = false := by
  unfold askCk at ck
  rw [Bool.or_eq_true] at ck
  rcases ck with z | z
  · exact absurd (beq_iff_eq.mp z) n
  · obtain ⟨h1, h2⟩ := of_and z
    exact ⟨PySem.W.mg_of X G (beq_iff_eq.mp h1), by rw [Bool.not_eq_true'] at h2; exact h2⟩
theorem excs_of {h : Heap} (X : K.In h) (G : h.Ns mainGlobals mg) {rs qs : List Nat} (ck : excTab K rs qs = true) : (∀ c ∈ rs, ExcK K mg qs c) ∧ ∀ d ∈ qs, d ≠ 15 → mg (exNm d) = some (.ref (ctOf K d)) ∧ (exNm d == ("__debug__" : Str)) = false := by
  obtain ⟨h1, h2⟩ := of_and ck
  exact ⟨fun c hc => exc_of X G (List.all_eq_true.mp h1 c hc), fun d hd n => ask_of X G (List.all_eq_true.mp h2 d hd) n⟩
theorem cx_false {P : Program} {w : World} {H : Hp} {s : Shared} {e : Value} {s' : Shared} (h : L2N.CX P w [] H s (fun _ _ _ => False) e s') : False := by
  obtain ⟨_, _, _, _, _, _, _, _, _, _, _, _, z⟩ := h
  exact z
/-- the law's promise, met -/
theorem law_sp {K : PySem.W.Frag} {H : Hp} {a : Addr} {ns : List Int} {g : List D → RD} (hS : SqL K H a (ns.map V.int)) (h : g [.lst (ns.map D.int)] = .ok (.bl true)) : spD K (ctOf K) 1 g [.ref a] H (fun v _ => v = .bl true) fun _ _ _ => False := by
  refine ⟨H, [.lst (ns.map D.int)], Same.refl _, .cons (.lst hS (Reps.ints ns)) .nil, rfl, ?_⟩
  rw [h]
  exact fun v H1 H' g r => by cases r; rfl
end
end Z

namespace Z
open PySem PySem.Spec PyProof.Rows L2
/-! ### sizes -/
def B (n : Nat) (i : Int) : Prop := i.natAbs < 2 ^ n
theorem B.mono {n m : Nat} {i : Int} (h : B n i) (l : n ≤ m) : B m i := Nat.lt_of_lt_of_le h (Nat.pow_le_pow_right (by decide) l)
theorem B.add {n m : Nat} {i j : Int} (h : B n i) (k : B m j) : B (max n m + 1) (i + j) := by
  have h' := B.mono h (Nat.le_max_left n m)
  have k' := B.mono k (Nat.le_max_right n m)
  unfold B at *
  rw [Nat.pow_succ]
  omega
theorem B.sub {n m : Nat} {i j : Int} (h : B n i) (k : B m j) : B (max n m + 1) (i - j) := by
  have h' := B.mono h (Nat.le_max_left n m)
  have k' := B.mono k (Nat.le_max_right n m)
  unfold B at *
  rw [Nat.pow_succ]
  omega
theorem B.neg {n : Nat} {i : Int} (h : B n i) : B n (-i) := by unfold B at *; omega
theorem B.mul {n m : Nat} {i j : Int} (h : B n i) (k : B m j) : B (n + m) (i * j) := by
  unfold B at *
  rw [Int.natAbs_mul, Nat.pow_add]
  exact Nat.mul_lt_mul'' h k
theorem ediv_natAbs (i j : Int) (hj : 0 < j) : (i / j).natAbs ≤ i.natAbs := by
  rcases Int.lt_or_le i 0 with h | h
  · have h1 : i / j < 0 := Int.ediv_neg_of_neg_of_pos h hj
    have h2 : i ≤ i / j := by
      refine (Int.le_ediv_iff_mul_le hj).mpr ?_
      have : i * j ≤ i * 1 := Int.mul_le_mul_of_nonpos_left (Int.le_of_lt h) (by omega)
      omega
    omega
  · have h1 := Int.ediv_nonneg h (Int.le_of_lt hj)
    have h2 := Int.ediv_le_self j h
    omega
theorem fdiv_natAbs (i j : Int) : (i.fdiv j).natAbs ≤ i.natAbs := by
  rcases Int.lt_trichotomy j 0 with hj | hj | hj
  · rw [← Int.neg_fdiv_neg, Int.fdiv_eq_ediv_of_nonneg _ (by omega)]
    have := ediv_natAbs (-i) (-j) (by omega)
    omega
  · subst hj; simp
  · rw [Int.fdiv_eq_ediv_of_nonneg _ (by omega)]
    exact ediv_natAbs i j hj
theorem B.fdiv {n : Nat} {i : Int} (j : Int) (h : B n i) : B n (i.fdiv j) := Nat.lt_of_le_of_lt (fdiv_natAbs i j) h
theorem B.fmod {m : Nat} {i j : Int} (hj : j ≠ 0) (h : B m j) : B m (i.fmod j) := by
  unfold B at *
  rcases Int.lt_or_lt_of_ne hj with hn | hp
  · have e : i.fmod j = -((-i).fmod (-j)) := by rw [Int.neg_fmod_neg, Int.neg_neg]
    have h1 := Int.fmod_nonneg_of_pos (-i) (show 0 < -j by omega)
    have h2 := Int.fmod_lt_of_pos (-i) (show 0 < -j by omega)
    omega
  · have h1 := Int.fmod_nonneg_of_pos i hp
    have h2 := Int.fmod_lt_of_pos i hp
    omega
theorem B.log2 {n : Nat} {i : Int} (h : B n i) : i.natAbs.log2 ≤ n := by
  unfold B at h
  by_cases h0 : i.natAbs = 0
  · rw [h0]; simp
  · exact Nat.le_of_lt ((Nat.log2_lt h0).mpr h)
theorem mulOk_B {n m : Nat} {i j : Int} (h : B n i) (k : B m j) (l : n + m < 60000000) : mulOk i j = true := by
  unfold mulOk
  have := h.log2
  have := k.log2
  rw [decide_eq_true_eq]
  omega
theorem fmod_natAbs {i j : Int} (hj : j ≠ 0) : (i.fmod j).natAbs < j.natAbs := by
  rcases Int.lt_or_lt_of_ne hj with hn | hp
  · have e : i.fmod j = -((-i).fmod (-j)) := by rw [Int.neg_fmod_neg, Int.neg_neg]
    have h1 := Int.fmod_nonneg_of_pos (-i) (show 0 < -j by omega)
    have h2 := Int.fmod_lt_of_pos (-i) (show 0 < -j by omega)
    omega
  · have h1 := Int.fmod_nonneg_of_pos i hp
    have h2 := Int.fmod_lt_of_pos i hp
    omega
theorem gcd_fmod (i j : Int) : Int.gcd j (i.fmod j) = Int.gcd i j := by
  rw [Int.fmod_def, Int.sub_eq_add_neg, ← Int.mul_neg, Int.mul_comm, Int.gcd_add_mul_right_right, Int.gcd_comm]
theorem B.emod {m : Nat} (i : Int) {j : Int} (hj : j ≠ 0) (h : B m j) : B m (i % j) := by
  unfold B at *
  have h1 := Int.emod_nonneg i hj
  rcases Int.lt_or_lt_of_ne hj with hn | hp
  · have h2 := Int.emod_lt_of_pos i (show 0 < -j by omega)
    rw [Int.emod_neg] at h2
    omega
  · have h2 := Int.emod_lt_of_pos i hp
    omega
theorem B.ediv {n : Nat} {i : Int} (j : Int) (h : B n i) : B n (i / j) := by
  unfold B at *
  have := Int.natAbs_ediv_le_natAbs i j
  omega
theorem B.lit (i : Int) : B (i.natAbs.log2 + 1) i := Nat.lt_log2_self
theorem B.of {n : Nat} {i : Int} (h : i < 2 ^ n) (h' : -(2 ^ n) < i) : B n i := by
  unfold B
  have e : ((2 ^ n : Nat) : Int) = 2 ^ n := by simp
  omega
theorem B.le {n : Nat} {i : Int} (N : Nat) (h : i ≤ N) (h' : -(N : Int) ≤ i) (hN : N < 2 ^ n) : B n i := by
  unfold B
  exact Nat.lt_of_le_of_lt (by omega) hN
theorem B.two {n : Nat} {i : Int} (h : B n i) : i < (2 ^ n : Nat) ∧ -((2 ^ n : Nat) : Int) < i := by
  unfold B at h
  constructor <;> omega
theorem mulD_B {i j : Int} (h : mulOk i j = true) : mulD (.int i) (.int j) = some (.int (i * j)) := if_pos h
/-! ### ints compared -/
theorem eqD_int (a b : Int) : eqD (.int a) (.int b) = some (a == b) := rfl
theorem eqD_int' (a b : Int) : eqD (.int a) (.int b) = some (decide (a = b)) := by
  rw [eqD_int]; rfl
/-! ### the greatest number that divides both, by remainders -/
def gcdC : Den := dBin (COp.fn .ne) (dVar 1) (dCst (.int 0))
def gcdB : SDen := sSeq (sPar 0 1 [dVar 1, dBin modD (dVar 0) (dVar 1)]) sNil
theorem gcd_loop : ∀ (n : Nat) (a b : Int), b.natAbs < n → ∃ g : Int, whileF [] gcdC gcdB n [.va (.int a), .va (.int b)] = .nx [.va (.int g), .va (.int 0)] ∧ g.natAbs = Int.gcd a b
  | 0, a, b, h => absurd h (Nat.not_lt_zero _)
  | n + 1, a, b, h => by
    by_cases hb : b = 0
    · subst hb
      exact ⟨a, rfl, by simp⟩
    · have h1 := fmod_natAbs (i := a) hb
      obtain ⟨g, e, q⟩ := gcd_loop n b (a.fmod b) (by omega)
      refine ⟨g, ?_, by rw [q, gcd_fmod]⟩
      have c1 : gcdC [.va (.int a), .va (.int b)] = .ok (.bl true) [.va (.int a), .va (.int b)] := by
        show RE.ok (.bl (!(b == 0))) _ = _
        rw [beq_false_of_ne hb]
        rfl
      have c2 : gcdB [.va (.int a), .va (.int b)] = .nx [.va (.int b), .va (.int (a.fmod b))] := by
        simp [gcdB, sSeq, sPar, dArgs, consA, bindAA, dVar, dBin, bindE, modD, hb, ofO, stD, sNil, bindS]
      show bindTS (gcdC _) (fun k δ1 => if k then loopK [] (gcdB δ1) (whileF [] gcdC gcdB n) else .nx δ1) = _
      rw [c1]
      show loopK [] (gcdB _) (whileF [] gcdC gcdB n) = _
      rw [c2]
      exact e
end Z

namespace Z
open PySem PySem.Spec PyProof.Rows L2
/-! ### the meaning step by step, for simp: no binder is entered before its turn -/
section
variable {δ : En} {d x y : D} {fa fb fc : Den} {fs : List Den} {i j n : Nat} {b : Bool} {c : Exc}
theorem bindE_ok {k : D → En → RE} : bindE (.ok d δ) k = k d δ := rfl
theorem bindE_rz {k : D → En → RE} : bindE (.rz c δ) k = .rz c δ := rfl
theorem bindA_ok {ds : List D} {k : List D → En → RE} : bindA (.ok ds δ) k = k ds δ := rfl
theorem bindA_rz {k : List D → En → RE} : bindA (.rz c δ) k = .rz c δ := rfl
theorem consA_ok {k : D → En → RA} : consA (.ok d δ) k = k d δ := rfl
theorem consA_rz {k : D → En → RA} : consA (.rz c δ) k = .rz c δ := rfl
theorem bindAA_ok {ds : List D} {k : List D → En → RA} : bindAA (.ok ds δ) k = k ds δ := rfl
theorem bindAA_rz {k : List D → En → RA} : bindAA (.rz c δ) k = .rz c δ := rfl
theorem bindT_ok {k : Bool → En → RE} : bindT (.ok (.bl b) δ) k = k b δ := rfl
theorem bindT_rz {k : Bool → En → RE} : bindT (.rz c δ) k = .rz c δ := rfl
theorem bindS_nx {k : En → RS} : bindS (.nx δ) k = k δ := rfl
theorem bindS_rt {k : En → RS} : bindS (.rt d δ) k = .rt d δ := rfl
theorem bindS_bk {k : En → RS} : bindS (.bk δ) k = .bk δ := rfl
theorem bindS_ct {k : En → RS} : bindS (.ct δ) k = .ct δ := rfl
theorem bindS_rz {k : En → RS} : bindS (.rz c δ) k = .rz c δ := rfl
theorem bindES_ok {k : D → En → RS} : bindES (.ok d δ) k = k d δ := rfl
theorem bindES_rz {k : D → En → RS} : bindES (.rz c δ) k = .rz c δ := rfl
theorem bindTS_ok {k : Bool → En → RS} : bindTS (.ok (.bl b) δ) k = k b δ := rfl
theorem bindTS_rz {k : Bool → En → RS} : bindTS (.rz c δ) k = .rz c δ := rfl
theorem bindAF_ok {ds : List D} {k : List D → En → RF} : bindAF (.ok ds δ) k = k ds δ := rfl
theorem bindEF_ok {k : D → En → RF} : bindEF (.ok d δ) k = k d δ := rfl
theorem bindPF_ok {o : Option Int} {k : Option Int → En → RF} : bindPF (.ok o δ) k = k o δ := rfl
theorem bindP_ok {o : Option Int} {k : Option Int → En → RE} : bindP (.ok o δ) k = k o δ := rfl
theorem ofO_s : ofO (some d) δ = .ok d δ := rfl
theorem ofD_ok : ofD (.ok d) δ = .ok d δ := rfl
theorem ofD_rz : ofD (.rz c) δ = .rz c δ := rfl
-- names
def dVarK (s : Option Sl) (i : Nat) (δ : En) : RE :=
  match s with
  | some (.va d) => .ok d δ
  | some (.ow o) => .ok (ownD o) (δ.set i (.va (ownD o)))
  | _ => .bad
theorem dVar_ : dVar i δ = dVarK δ[i]? i δ := rfl
theorem dVarK_va : dVarK (some (.va d)) i δ = .ok d δ := rfl
theorem dVarK_ow {o : O} : dVarK (some (.ow o)) i δ = .ok (ownD o) (δ.set i (.va (ownD o))) := rfl
theorem ownD_l {ds : List D} : ownD (.lst ds) = .lst ds := rfl
theorem dCst_ : dCst d δ = .ok d δ := rfl
-- operators
def kBin2 (g : D → D → Option D) (x : D) : D → En → RE := fun y δ => ofO (g x y) δ
def kBin (g : D → D → Option D) (fb : Den) : D → En → RE := fun x δ => bindE (fb δ) (kBin2 g x)
theorem dBin_ {g : D → D → Option D} : dBin g fa fb δ = bindE (fa δ) (kBin g fb) := rfl
theorem kBin_ {g : D → D → Option D} : kBin g fb x δ = bindE (fb δ) (kBin2 g x) := rfl
theorem kBin2_ {g : D → D → Option D} : kBin2 g x y δ = ofO (g x y) δ := rfl
def kUn (g : D → Option D) : D → En → RE := fun x δ => ofO (g x) δ
theorem dUn_ {g : D → Option D} : dUn g fa δ = bindE (fa δ) (kUn g) := rfl
theorem kUn_ {g : D → Option D} : kUn g x δ = ofO (g x) δ := rfl
-- arguments
def kArg2 (d : D) : List D → En → RA := fun ds δ => .ok (d :: ds) δ
def kArg (fs : List Den) : D → En → RA := fun d δ => bindAA (dArgs fs δ) (kArg2 d)
theorem dArgs_n : dArgs [] δ = .ok [] δ := rfl
theorem dArgs_c : dArgs (fa :: fs) δ = consA (fa δ) (kArg fs) := rfl
theorem kArg_ : kArg fs d δ = bindAA (dArgs fs δ) (kArg2 d) := rfl
theorem kArg2_ {ds : List D} : kArg2 d ds δ = .ok (d :: ds) δ := rfl
def kTup : List D → En → RE := fun ds δ => if ds.length ≤ 1000000 then .ok (.tup ds) δ else .bad
theorem dTup_ : dTup fs δ = bindA (dArgs fs δ) kTup := rfl
theorem kTup_ {ds : List D} : kTup ds δ = if ds.length ≤ 1000000 then .ok (.tup ds) δ else .bad := rfl
def kLst : List D → En → RF := fun ds δ => if ds.length ≤ 1000000 then .ok (.lst ds) δ else .bad
theorem fLst_ : fLst fs δ = bindAF (dArgs fs δ) kLst := rfl
theorem kLst_ {ds : List D} : kLst ds δ = if ds.length ≤ 1000000 then .ok (.lst ds) δ else .bad := rfl
def frK (r : RF) : RE :=
  match r with
  | .ok o δ => .ok (ownD o) δ
  | .rz c δ => .rz c δ
  | .bad => .bad
theorem dFr_ {f : FDen} : dFr f δ = frK (f δ) := rfl
theorem frK_ok {o : O} : frK (.ok o δ) = .ok (ownD o) δ := rfl
def kBi (g : List D → Option D) : List D → En → RE := fun ds δ => ofO (g ds) δ
theorem dBi_ {g : List D → Option D} : dBi g fs δ = bindA (dArgs fs δ) (kBi g) := rfl
theorem kBi_ {g : List D → Option D} {ds : List D} : kBi g ds δ = ofO (g ds) δ := rfl
def kCall (g : List D → RD) : List D → En → RE := fun ds δ => ofD (g ds) δ
theorem dCall_ {g : List D → RD} : dCall g fs δ = bindA (dArgs fs δ) (kCall g) := rfl
theorem kCall_ {g : List D → RD} {ds : List D} : kCall g ds δ = ofD (g ds) δ := rfl
-- and, or
def kAnd (fb : Den) : Bool → En → RE := fun b δ => if b then fb δ else .ok (.bl false) δ
def kOr (fb : Den) : Bool → En → RE := fun b δ => if b then .ok (.bl true) δ else fb δ
theorem dAnd_ : dAnd fa fb δ = bindT (fa δ) (kAnd fb) := rfl
theorem dOr_ : dOr fa fb δ = bindT (fa δ) (kOr fb) := rfl
theorem kAnd_ : kAnd fb b δ = if b = true then fb δ else .ok (.bl false) δ := rfl
theorem kOr_ : kOr fb b δ = if b = true then .ok (.bl true) δ else fb δ := rfl
theorem dAnds_1 : dAnds [fa] = fa := rfl
theorem dAnds_2 : dAnds (fa :: fb :: fs) = dAnd fa (dAnds (fb :: fs)) := rfl
theorem dOrs_1 : dOrs [fa] = fa := rfl
theorem dOrs_2 : dOrs (fa :: fb :: fs) = dOr fa (dOrs (fb :: fs)) := rfl
def kIte (fa fb : Den) : Bool → En → RE := fun b δ => if b then fa δ else fb δ
theorem dIte_ : dIte fc fa fb δ = bindT (fc δ) (kIte fa fb) := rfl
theorem kIte_ : kIte fa fb b δ = if b = true then fa δ else fb δ := rfl
-- statements
section
variable {f g : SDen}
theorem sSeq_ : sSeq f g δ = bindS (f δ) g := rfl
theorem sNil_ : sNil δ = .nx δ := rfl
theorem sPass_ : sPass δ = .nx δ := rfl
theorem sBrk_ : sBrk δ = .bk δ := rfl
theorem sCnt_ : sCnt δ = .ct δ := rfl
theorem sRetN_ : sRetN δ = .rt .non δ := rfl
def kRet : D → En → RS := fun d δ => .rt d δ
theorem sRet_ : sRet fa δ = bindES (fa δ) kRet := rfl
theorem kRet_ : kRet d δ = .rt d δ := rfl
def kExp : D → En → RS := fun _ δ => .nx δ
theorem sExp_ : sExp fa δ = bindES (fa δ) kExp := rfl
theorem kExp_ : kExp d δ = .nx δ := rfl
def kIf (f g : SDen) : Bool → En → RS := fun b δ => if b then f δ else g δ
theorem sIf_ : sIf fc f g δ = bindTS (fc δ) (kIf f g) := rfl
theorem kIf_ : kIf f g b δ = if b = true then f δ else g δ := rfl
def nxO (o : Option En) : RS := match o with
  | some δ => .nx δ
  | none => .bad
theorem nxO_s : nxO (some δ) = .nx δ := rfl
def kAsg (g : D → En → Option En) : D → En → RS := fun d δ => nxO (g d δ)
theorem sAsg_ {g : D → En → Option En} : sAsg g fa δ = bindES (fa δ) (kAsg g) := by
  unfold sAsg kAsg nxO
  congr 1
theorem kAsg_ {g : D → En → Option En} : kAsg g d δ = nxO (g d δ) := rfl
def stK (s : Option Sl) (i : Nat) (d : D) (δ : En) : Option En :=
  match s with
  | some (.pi _) => none
  | some _ => some (δ.set i (.va d))
  | none => none
theorem stD_ : stD i d δ = stK δ[i]? i d δ := by
  unfold stD stK
  cases δ[i]? with
  | none => rfl
  | some s => cases s <;> rfl
theorem stK_no : stK (some .no) i d δ = some (δ.set i (.va d)) := rfl
theorem stK_va : stK (some (.va x)) i d δ = some (δ.set i (.va d)) := rfl
theorem stK_ow {o : O} : stK (some (.ow o)) i d δ = some (δ.set i (.va d)) := rfl
theorem tgv : Tg.st (.var i) d δ = stD i d δ := rfl
theorem tgt {is : List Nat} {ds : List D} : Tg.st (.tup is) (.tup ds) δ = stDs is ds δ := rfl
theorem tgl {is : List Nat} {ds : List D} : Tg.st (.tup is) (.lst ds) δ = stDs is ds δ := rfl
theorem tgnt {iss : List (List Nat)} {ds : List D} : Tg.st (.nst iss) (.tup ds) δ = stNs iss ds δ := rfl
theorem tgnl {iss : List (List Nat)} {ds : List D} : Tg.st (.nst iss) (.lst ds) δ = stNs iss ds δ := rfl
theorem stNs_n : stNs [] [] δ = some δ := rfl
theorem stNs_c {is : List Nat} {iss : List (List Nat)} {d : D} {ds : List D} : stNs (is :: iss) (d :: ds) δ = (stT is d δ).bind (stNs iss ds) := rfl
theorem stT_t {is : List Nat} {ds : List D} : stT is (.tup ds) δ = stDs is ds δ := rfl
theorem stT_l {is : List Nat} {ds : List D} : stT is (.lst ds) δ = stDs is ds δ := rfl
theorem stDs_n : stDs [] [] δ = some δ := rfl
theorem stDs_c {is : List Nat} {ds : List D} : stDs (i :: is) (d :: ds) δ = (stD i d δ).bind (stDs is ds) := rfl
def kPar (i j : Nat) : RA → RS
  | .ok [d, e] δ => (stD i d δ).bind (stD j e) |> nxO
  | .rz c δ => .rz c δ
  | _ => .bad
theorem sPar_ : sPar i j fs δ = kPar i j (dArgs fs δ) := by
  unfold sPar kPar
  cases dArgs fs δ with
  | rz c δ1 => rfl
  | bad => rfl
  | ok ds δ1 =>
    match ds with
    | [] => rfl
    | [_] => rfl
    | _ :: _ :: _ :: _ => rfl
    | [d, e] =>
      dsimp only
      cases stD i d δ1 with
      | none => rfl
      | some δ2 =>
        dsimp only [Option.bind]
        cases stD j e δ2 <;> rfl
theorem kPar_ok {d e : D} : kPar i j (.ok [d, e] δ) = nxO ((stD i d δ).bind (stD j e)) := rfl
theorem kPar_rz : kPar i j (.rz c δ) = .rz c δ := rfl
def ownK (s : Option Sl) (i : Nat) (o : O) (δ : En) : RS :=
  match s with
  | some (.pi _) => .bad
  | some _ => .nx (δ.set i (.ow o))
  | none => .bad
def kOwn (i : Nat) : RF → RS
  | .ok o δ => ownK δ[i]? i o δ
  | .rz c δ => .rz c δ
  | .bad => .bad
theorem sOwn_ {f : FDen} : sOwn i f δ = kOwn i (f δ) := by
  unfold sOwn kOwn ownK
  cases f δ with
  | ok o δ1 =>
    dsimp only
    all_goals (cases δ1[i]? with
    | none => rfl
    | some s => cases s <;> rfl)
  | rz c δ1 => rfl
  | bad => rfl
theorem kOwn_ok {o : O} : kOwn i (.ok o δ) = ownK δ[i]? i o δ := rfl
theorem kOwn_rz : kOwn i (.rz c δ) = .rz c δ := rfl
theorem ownK_no {o : O} : ownK (some .no) i o δ = .nx (δ.set i (.ow o)) := rfl
theorem ownK_va {o : O} : ownK (some (.va x)) i o δ = .nx (δ.set i (.ow o)) := rfl
theorem ownK_ow {o p : O} : ownK (some (.ow p)) i o δ = .nx (δ.set i (.ow o)) := rfl
def augK (o : Bool) (i : Nat) (x : D) : D → En → RS := fun d δ => nxO ((augD o x d).bind fun z => stD i z δ)
def augS (s : Option Sl) (i : Nat) (o : Bool) (f : Den) (δ : En) : RS :=
  match s with
  | some (.va x) => bindES (f δ) (augK o i x)
  | _ => .bad
theorem sAug_ {o : Bool} : sAug i o fa δ = augS δ[i]? i o fa δ := by
  unfold sAug augS
  cases δ[i]? with
  | none => rfl
  | some s =>
    cases s with
    | va x =>
      dsimp only
      congr 1
      funext d δ1
      unfold augK
      cases augD o x d with
      | none => rfl
      | some z =>
        dsimp only [Option.bind]
        cases stD i z δ1 <;> rfl
    | _ => rfl
theorem augS_va {o : Bool} : augS (some (.va x)) i o fa δ = bindES (fa δ) (augK o i x) := rfl
theorem augK_i {o : Bool} {a b : Int} : augK o i (.int a) (.int b) δ = nxO (stD i (.int (if o = true then a + b else a - b)) δ) := rfl
end
-- loops
theorem loopK_nx {ws : List Nat} {k : En → RS} : loopK ws (.nx δ) k = k (fgt ws δ) := rfl
theorem loopK_ct {ws : List Nat} {k : En → RS} : loopK ws (.ct δ) k = k (fgt ws δ) := rfl
theorem loopK_bk {ws : List Nat} {k : En → RS} : loopK ws (.bk δ) k = .nx δ := rfl
theorem loopK_rt {ws : List Nat} {k : En → RS} : loopK ws (.rt d δ) k = .rt d δ := rfl
theorem loopK_rz {ws : List Nat} {k : En → RS} : loopK ws (.rz c δ) k = .rz c δ := rfl
def fgK (s : Option Sl) (i : Nat) (δ : En) : En :=
  match s with
  | some (.pi _) => δ
  | _ => δ.set i .no
theorem fgt_n : fgt [] δ = δ := rfl
theorem fgt_c {ws : List Nat} : fgt (i :: ws) δ = fgt ws (fgK δ[i]? i δ) := by
  show fgt ws (fgt1 δ i) = _
  congr 1
theorem fgK_no : fgK (some .no) i δ = δ.set i .no := rfl
theorem fgK_va : fgK (some (.va x)) i δ = δ.set i .no := rfl
theorem fgK_ow {o : O} : fgK (some (.ow o)) i δ = δ.set i .no := rfl
def kFor (ws : List Nat) (g : D → En → Option En) (b : SDen) : RI → RS
  | .ok ds δ => forF ws g b ds (fgt ws δ)
  | .rz c δ => .rz c δ
  | .bad => .bad
theorem sFor_ {ws : List Nat} {fi : En → RI} {g : D → En → Option En} {b : SDen} : sFor ws fi g b δ = kFor ws g b (fi δ) := by
  unfold sFor kFor
  cases fi δ <;> rfl
theorem kFor_ok {ws : List Nat} {ds : List D} {g : D → En → Option En} {b : SDen} : kFor ws g b (.ok ds δ) = forF ws g b ds (fgt ws δ) := rfl
theorem sWhl_ {ws : List Nat} {n : En → Nat} {b : SDen} : sWhl ws n fc b δ = whileF ws fc b (n δ) δ := rfl
def seqK : RE → RI
  | .ok d δ => (match seqOf d with
    | some ds => .ok ds δ
    | none => .bad)
  | .rz c δ => .rz c δ
  | .bad => .bad
theorem iSeq_ : iSeq fa δ = seqK (fa δ) := by
  unfold iSeq seqK
  cases fa δ <;> rfl
theorem seqK_l {ds : List D} : seqK (.ok (.lst ds) δ) = .ok ds δ := rfl
theorem seqK_t {ds : List D} : seqK (.ok (.tup ds) δ) = .ok ds δ := rfl
def rngK : RA → RI
  | .ok ds δ => (match rngL ds with
    | some es => .ok es δ
    | none => .bad)
  | .rz c δ => .rz c δ
  | .bad => .bad
theorem iRng_ : iRng fs δ = rngK (dArgs fs δ) := by
  unfold iRng rngK
  cases dArgs fs δ <;> rfl
theorem rngK_1 {k : Int} (h : rngOk k = true) : rngK (.ok [.int k] δ) = .ok (rngD 0 k.toNat) δ := by
  show (match (if rngOk k then some (rngD 0 k.toNat) else none) with | some es => RI.ok es δ | none => .bad) = _
  rw [if_pos h]
theorem rngK_2 {k l : Int} (h : rngOk k = true) (h' : rngOk l = true) : rngK (.ok [.int k, .int l] δ) = .ok (rngD k (l - k).toNat) δ := by
  show (match (if rngOk k && rngOk l then some (rngD k (l - k).toNat) else none) with | some es => RI.ok es δ | none => .bad) = _
  rw [h, h']
  rfl
theorem rngOk_of {k : Int} (h : -(2 ^ 62) ≤ k) (h' : k < 2 ^ 62) : rngOk k = true := by
  unfold rngOk
  rw [decide_eq_true h, decide_eq_true h']
  rfl
-- what a frame owns
def peekK (s : Option Sl) : Option D :=
  match s with
  | some (.va d) => some d
  | some (.ow o) => some (ownD o)
  | some (.pi o) => some (ownD o)
  | _ => none
theorem peek_ : peek δ i = peekK δ[i]? := rfl
theorem peekK_va : peekK (some (.va d)) = some d := rfl
theorem peekK_ow {o : O} : peekK (some (.ow o)) = some (ownD o) := rfl
def bKK (o : Option D) (g : D → D → Option D) (y : D) (δ : En) : RE :=
  match o with
  | some d => (match g d y with
    | some (.bl b) => .ok (.bl b) δ
    | _ => .bad)
  | none => .bad
def kCmpB (g : D → D → Option D) (i : Nat) : D → En → RE := fun y δ => bKK (peek δ i) g y δ
def cmpBK (o : Option D) (r : RE) (k : D → En → RE) : RE := match o with
  | some _ => bindE r k
  | none => .bad
theorem dCmpB_ {g : D → D → Option D} : dCmpB g i fb δ = cmpBK (peek δ i) (fb δ) (kCmpB g i) := rfl
theorem cmpBK_s {r : RE} {k : D → En → RE} : cmpBK (some d) r k = bindE r k := rfl
theorem kCmpB_ {g : D → D → Option D} : kCmpB g i y δ = bKK (peek δ i) g y δ := rfl
theorem bKK_s {g : D → D → Option D} (h : g d y = some (.bl b)) : bKK (some d) g y δ = .ok (.bl b) δ := by
  unfold bKK
  simp only [h]
def ixKK (s : Option Sl) (k : D) (δ1 : En) : RE :=
  match s with
  | some (.va d) => ofO (idxD d k) δ1
  | some (.ow (.lst ds)) => (match k with
    | .int k => ofO (atI ds k) δ1
    | _ => .bad)
  | some (.pi (.lst ds)) => (match k with
    | .int k => ofO (atI ds k) δ1
    | _ => .bad)
  | _ => .bad
def kIxO (i : Nat) : D → En → RE := fun k δ => ixKK δ[i]? k δ
theorem dIxO_ : dIxO i fb δ = cmpBK (peek δ i) (fb δ) (kIxO i) := rfl
theorem kIxO_ : kIxO i y δ = ixKK δ[i]? y δ := rfl
theorem ixKK_va : ixKK (some (.va d)) y δ = ofO (idxD d y) δ := rfl
theorem ixKK_ow {ds : List D} {k : Int} : ixKK (some (.ow (.lst ds))) (.int k) δ = ofO (atI ds k) δ := rfl
def lenK (o : Option D) (δ : En) : RE := match o with
  | some d => ofO (lenL [d]) δ
  | none => .bad
theorem dLenO_ : dLenO i δ = lenK (peek δ i) δ := rfl
def indK (s : Option Sl) (r : RE) : RE := match s with
  | some (.va (.lst ds)) => bindE r (kInd ds)
  | _ => .bad
theorem dInd_ {f : Den} : dInd i f δ = indK (δ[i]?) (f δ) := rfl
theorem indK_l {ds : List D} {r : RE} : indK (some (.va (.lst ds))) r = bindE r (kInd ds) := rfl
theorem kInd_ {ds : List D} {e : D} : kInd ds e δ = ofO (indD ds e) δ := rfl
theorem lenK_s : lenK (some d) δ = ofO (lenL [d]) δ := rfl
def appK (s : Option Sl) (i : Nat) (d : D) (δ : En) : RS :=
  match s with
  | some (.ow (.lst ds)) => if ds.length < 1000000 then .nx (δ.set i (.ow (.lst (ds ++ [d])))) else .bad
  | some (.pi (.lst ds)) => if ds.length < 1000000 then .nx (δ.set i (.pi (.lst (ds ++ [d])))) else .bad
  | _ => .bad
def kApp (i : Nat) : D → En → RS := fun d δ => appK δ[i]? i d δ
def appS (s : Option Sl) (r : RE) (k : D → En → RS) : RS :=
  match s with
  | some (.ow (.lst _)) => bindES r k
  | some (.pi (.lst _)) => bindES r k
  | _ => .bad
def extK (i : Nat) (r : RF) : RS := match r with
  | .ok (.lst zs) δ1 => (match ownAt δ1 i with
    | some (.lst ds) => if ds.length + zs.length ≤ 1000000 then .nx (setOwn δ1 i (.lst (ds ++ zs))) else .bad
    | _ => .bad)
  | .ok _ _ => .bad
  | .rz c δ1 => .rz c δ1
  | .bad => .bad
def extKK (s : Option Sl) (i : Nat) (zs : List D) (δ : En) : RS := match s with
  | some (.ow (.lst ds)) => if ds.length + zs.length ≤ 1000000 then .nx (δ.set i (.ow (.lst (ds ++ zs)))) else .bad
  | some (.pi (.lst ds)) => if ds.length + zs.length ≤ 1000000 then .nx (δ.set i (.pi (.lst (ds ++ zs)))) else .bad
  | _ => .bad
def extR (i : Nat) (r : RF) : RS := match r with
  | .ok (.lst zs) δ1 => extKK δ1[i]? i zs δ1
  | .ok _ _ => .bad
  | .rz c δ1 => .rz c δ1
  | .bad => .bad
def extS (s : Option Sl) (i : Nat) (r : RF) : RS := match s with
  | some (.ow (.lst _)) => extR i r
  | some (.pi (.lst _)) => extR i r
  | _ => .bad
theorem sExt2_ {f : FDen} : sExt i f δ = extS δ[i]? i (f δ) := by
  have key : ∀ (zs : List D) (δ1 : En), (match ownAt δ1 i with
      | some (.lst ds) => if ds.length + zs.length ≤ 1000000 then RS.nx (setOwn δ1 i (.lst (ds ++ zs))) else .bad
      | _ => .bad) = extKK δ1[i]? i zs δ1 := by
    intro zs δ1
    unfold extKK ownAt setOwn
    cases δ1[i]? with
    | none => rfl
    | some s =>
      cases s with
      | ow o => cases o <;> rfl
      | pi o => cases o <;> rfl
      | _ => rfl
  unfold sExt extS extR
  have e : ownAt δ i = (match δ[i]? with | some (.ow o) => some o | some (.pi o) => some o | _ => none) := by
    unfold ownAt
    cases δ[i]? with
    | none => rfl
    | some s => cases s <;> rfl
  cases h : δ[i]? with
  | none => rw [e, h]
  | some s =>
    rw [e, h]
    cases s with
    | ow o =>
      cases o with
      | lst ds =>
        dsimp only
        cases f δ with
        | ok o δ1 => cases o with
          | lst zs => exact key zs δ1
          | dic _ _ => rfl
        | rz c δ1 => rfl
        | bad => rfl
      | dic _ _ => rfl
    | pi o =>
      cases o with
      | lst ds =>
        dsimp only
        cases f δ with
        | ok o δ1 => cases o with
          | lst zs => exact key zs δ1
          | dic _ _ => rfl
        | rz c δ1 => rfl
        | bad => rfl
      | dic _ _ => rfl
    | va d => rfl
    | no => rfl
theorem extS_ow {ds : List D} {r : RF} : extS (some (.ow (.lst ds))) i r = extR i r := rfl
theorem extS_pi {ds : List D} {r : RF} : extS (some (.pi (.lst ds))) i r = extR i r := rfl
theorem extR_ok {zs : List D} : extR i (.ok (.lst zs) δ) = extKK δ[i]? i zs δ := rfl
theorem extR_rz : extR i (.rz c δ) = .rz c δ := rfl
theorem extKK_ow {ds zs : List D} : extKK (some (.ow (.lst ds))) i zs δ = if ds.length + zs.length ≤ 1000000 then .nx (δ.set i (.ow (.lst (ds ++ zs)))) else .bad := rfl
theorem extKK_pi {ds zs : List D} : extKK (some (.pi (.lst ds))) i zs δ = if ds.length + zs.length ≤ 1000000 then .nx (δ.set i (.pi (.lst (ds ++ zs)))) else .bad := rfl
theorem sApp_ : sApp i fa δ = appS δ[i]? (fa δ) (kApp i) := by
  have key : (fun d δ1 => match ownAt δ1 i with
      | some (.lst ds) => if ds.length < 1000000 then RS.nx (setOwn δ1 i (.lst (ds ++ [d]))) else .bad
      | _ => .bad) = kApp i := by
    funext d δ1
    unfold kApp appK ownAt setOwn
    cases δ1[i]? with
    | none => rfl
    | some s =>
      cases s with
      | ow o => cases o <;> rfl
      | pi o => cases o <;> rfl
      | _ => rfl
  rw [← key]
  unfold sApp appS
  have e : ownAt δ i = (match δ[i]? with
    | some (.ow o) => some o
    | some (.pi o) => some o
    | _ => none) := rfl
  rw [e]
  cases δ[i]? with
  | none => rfl
  | some s =>
    cases s with
    | ow o => cases o <;> rfl
    | pi o => cases o <;> rfl
    | _ => rfl
theorem appS_ow {ds : List D} {r : RE} {k : D → En → RS} : appS (some (.ow (.lst ds))) r k = bindES r k := rfl
theorem kApp_ : kApp i d δ = appK δ[i]? i d δ := rfl
theorem appK_ow {ds : List D} (h : ds.length < 1000000) : appK (some (.ow (.lst ds))) i d δ = .nx (δ.set i (.ow (.lst (ds ++ [d])))) := if_pos h
def subO (s : Option Sl) (i : Nat) (d k : D) (δ : En) : RS :=
  match k, s with
  | .int k, some (.ow (.lst ds)) => (match ixN ds.length k with
    | some j => .nx (δ.set i (.ow (.lst (ds.set j d))))
    | none => .bad)
  | .int k, some (.pi (.lst ds)) => (match ixN ds.length k with
    | some j => .nx (δ.set i (.pi (.lst (ds.set j d))))
    | none => .bad)
  | _, _ => .bad
def kSub2 (i : Nat) (d : D) : D → En → RS := fun k δ => subO δ[i]? i d k δ
def kSub (i : Nat) (fi : Den) : D → En → RS := fun d δ => appS δ[i]? (fi δ) (kSub2 i d)
theorem sSub_ {fi : Den} : sSub i fi fa δ = bindES (fa δ) (kSub i fi) := by
  unfold sSub
  congr 1
  funext d δ1
  have key : (fun k δ2 => subK i d k δ2) = kSub2 i d := by
    funext k δ2
    unfold kSub2 subO subK ownAt setOwn
    cases k with
    | int k =>
      cases δ2[i]? with
      | none => rfl
      | some s =>
        cases s with
        | ow o => cases o <;> rfl
        | pi o => cases o <;> rfl
        | _ => rfl
    | _ =>
      cases δ2[i]? with
      | none => rfl
      | some s =>
        cases s with
        | ow o => cases o <;> rfl
        | pi o => cases o <;> rfl
        | _ => rfl
  unfold kSub appS
  rw [← key]
  cases h : δ1[i]? with
  | none => simp only [ownAt, h]
  | some s =>
    cases s with
    | ow o => cases o <;> simp only [ownAt, h]
    | pi o => cases o <;> simp only [ownAt, h]
    | _ => simp only [ownAt, h]
theorem kSub_ {fi : Den} : kSub i fi d δ = appS δ[i]? (fi δ) (kSub2 i d) := rfl
theorem kSub2_ : kSub2 i d y δ = subO δ[i]? i d y δ := rfl
theorem subO_ow {ds : List D} {k : Int} {j : Nat} (h : ixN ds.length k = some j) : subO (some (.ow (.lst ds))) i d (.int k) δ = .nx (δ.set i (.ow (.lst (ds.set j d)))) := by
  show (match ixN ds.length k with | some j => RS.nx (δ.set i (.ow (.lst (ds.set j d)))) | none => .bad) = _
  rw [h]
-- slices
def partK : RE → RP
  | .ok (.int i) δ => .ok (some i) δ
  | .rz c δ => .rz c δ
  | _ => .bad
theorem dPart_n : dPart none δ = .ok none δ := rfl
theorem dPart_s : dPart (some fa) δ = partK (fa δ) := by
  show (match fa δ with
    | .ok (.int i) δ => RP.ok (some i) δ
    | .rz c δ => .rz c δ
    | _ => .bad) = _
  unfold partK
  cases fa δ with
  | ok d δ1 => cases d <;> rfl
  | _ => rfl
theorem partK_i {a : Int} : partK (.ok (.int a) δ) = .ok (some a) δ := rfl
def kCut3 (d : D) (l : Option Int) : Option Int → En → RE := fun u δ => ofO (slD d l u) δ
def kCut2 (d : D) (hi : Option Den) : Option Int → En → RE := fun l δ => bindP (dPart hi δ) (kCut3 d l)
def kCut (lo hi : Option Den) : D → En → RE := fun d δ => bindP (dPart lo δ) (kCut2 d hi)
theorem dCut_ {lo hi : Option Den} : dCut fa lo hi δ = bindE (fa δ) (kCut lo hi) := rfl
theorem kCut_ {lo hi : Option Den} : kCut lo hi d δ = bindP (dPart lo δ) (kCut2 d hi) := rfl
theorem kCut2_ {hi : Option Den} {l : Option Int} : kCut2 d hi l δ = bindP (dPart hi δ) (kCut3 d l) := rfl
theorem kCut3_ {l u : Option Int} : kCut3 d l u δ = ofO (slD d l u) δ := rfl
theorem slD_l {ds : List D} {l u : Option Int} : slD (.lst ds) l u = some (.lst (cutG ds l u)) := rfl
def kFC3 (d : D) (l u : Option Int) (δ : En) : RF := match d with
  | .lst ds => .ok (.lst (cutG ds l u)) δ
  | _ => .bad
def kFC2 (d : D) (l : Option Int) : Option Int → En → RF := fun u δ => kFC3 d l u δ
def kFC1 (d : D) (hi : Option Den) : Option Int → En → RF := fun l δ => bindPF (dPart hi δ) (kFC2 d l)
def kFC (lo hi : Option Den) : D → En → RF := fun d δ => bindPF (dPart lo δ) (kFC1 d hi)
theorem fCut_ {lo hi : Option Den} : fCut fa lo hi δ = bindEF (fa δ) (kFC lo hi) := rfl
theorem kFC_ {lo hi : Option Den} : kFC lo hi d δ = bindPF (dPart lo δ) (kFC1 d hi) := rfl
theorem kFC1_ {hi : Option Den} {l : Option Int} : kFC1 d hi l δ = bindPF (dPart hi δ) (kFC2 d l) := rfl
theorem kFC2_ {l u : Option Int} : kFC2 d l u δ = kFC3 d l u δ := rfl
theorem kFC3_l {ds : List D} {l u : Option Int} : kFC3 (.lst ds) l u δ = .ok (.lst (cutG ds l u)) δ := rfl
def kSt4 (d : D) (l u c : Option Int) (δ : En) : RF := match d with
  | .lst ds => stpK ds l u c δ
  | _ => .bad
def kSt3 (d : D) (st : Option Den) (l u : Option Int) (δ : En) : RF := bindPF (dPart st δ) (kSt4 d l u)
def kSt2 (d : D) (hi st : Option Den) (l : Option Int) (δ : En) : RF := bindPF (dPart hi δ) (kSt3 d st l)
def kSt1 (lo hi st : Option Den) (d : D) (δ : En) : RF := bindPF (dPart lo δ) (kSt2 d hi st)
theorem fStp_ {lo hi st : Option Den} : fStp fa lo hi st δ = bindEF (fa δ) (kSt1 lo hi st) := rfl
theorem kSt1_ {lo hi st : Option Den} : kSt1 lo hi st d δ = bindPF (dPart lo δ) (kSt2 d hi st) := rfl
theorem kSt2_ {hi st : Option Den} {l : Option Int} : kSt2 d hi st l δ = bindPF (dPart hi δ) (kSt3 d st l) := rfl
theorem kSt3_ {st : Option Den} {l u : Option Int} : kSt3 d st l u δ = bindPF (dPart st δ) (kSt4 d l u) := rfl
theorem kSt4_l {ds : List D} {l u c : Option Int} : kSt4 (.lst ds) l u c δ = stpK ds l u c δ := rfl
theorem stpK_ {ds : List D} {l u c : Option Int} (h : (!decide (c = some 0) && decide ((ZX.pickG ds l u c).length ≤ 1000000)) = true) : stpK ds l u c δ = .ok (.lst (ZX.pickG ds l u c)) δ := if_pos h
def kDs4 (d : D) (l u : Option Int) : Option Int → En → RE := fun c δ => ofO (stpD d l u c) δ
def kDs3 (d : D) (st : Option Den) (l : Option Int) : Option Int → En → RE := fun u δ => bindP (dPart st δ) (kDs4 d l u)
def kDs2 (d : D) (hi st : Option Den) : Option Int → En → RE := fun l δ => bindP (dPart hi δ) (kDs3 d st l)
def kDs (lo hi st : Option Den) : D → En → RE := fun d δ => bindP (dPart lo δ) (kDs2 d hi st)
theorem dStp_ {lo hi st : Option Den} : dStp fa lo hi st δ = bindE (fa δ) (kDs lo hi st) := rfl
theorem kDs_ {lo hi st : Option Den} : kDs lo hi st d δ = bindP (dPart lo δ) (kDs2 d hi st) := rfl
theorem kDs2_ {hi st : Option Den} {l : Option Int} : kDs2 d hi st l δ = bindP (dPart hi δ) (kDs3 d st l) := rfl
theorem kDs3_ {st : Option Den} {l u : Option Int} : kDs3 d st l u δ = bindP (dPart st δ) (kDs4 d l u) := rfl
theorem kDs4_ {l u c : Option Int} : kDs4 d l u c δ = ofO (stpD d l u c) δ := rfl
theorem cutG_ {ds : List D} {l u : Option Int} : cutG ds l u = (ds.drop (HT.sIx ds.length 0 l)).take (HT.sIx ds.length ds.length u - HT.sIx ds.length 0 l) := rfl
theorem sIx_n {n e : Nat} : HT.sIx n e none = e := rfl
theorem sIx_s {n e : Nat} {v : Int} : HT.sIx n e (some v) = if v < 0 then (v + (n : Int)).toNat else min v.toNat n := rfl
-- operations
theorem addD_i {a b : Int} : addD (.int a) (.int b) = some (.int (a + b)) := rfl
theorem subD_i {a b : Int} : subD (.int a) (.int b) = some (.int (a - b)) := rfl
theorem mulD_i {a b : Int} (h : mulOk a b = true) : mulD (.int a) (.int b) = some (.int (a * b)) := if_pos h
theorem fdivD_i {a b : Int} (h : divOk b = true) : fdivD (.int a) (.int b) = some (.int (a.fdiv b)) := if_pos h
theorem fdivD_p {a b : Int} (h : divOk b = true) (h0 : 0 ≤ b) : fdivD (.int a) (.int b) = some (.int (a / b)) := by
  rw [fdivD_i h, Int.fdiv_eq_ediv_of_nonneg _ h0]
theorem modD_i {a b : Int} (h : b ≠ 0) : modD (.int a) (.int b) = some (.int (a.fmod b)) := if_neg h
theorem modD_p {a b : Int} (h : 0 < b) : modD (.int a) (.int b) = some (.int (a % b)) := by
  rw [modD_i (by omega), Int.fmod_eq_emod_of_nonneg _ (by omega)]
theorem powD_i {a b : Int} (h : powOk a b = true) : powD (.int a) (.int b) = some (.int (a ^ b.toNat)) := if_pos h
theorem negD_i {a : Int} : negD (.int a) = some (.int (-a)) := rfl
theorem notD_b : notD (.bl b) = some (.bl (!b)) := rfl
theorem cop_lt {a b : Int} : COp.fn .lt (.int a) (.int b) = some (.bl (decide (a < b))) := rfl
theorem cop_le {a b : Int} : COp.fn .le (.int a) (.int b) = some (.bl (decide (a ≤ b))) := rfl
theorem cop_gt {a b : Int} : COp.fn .gt (.int a) (.int b) = some (.bl (decide (b < a))) := rfl
theorem cop_ge {a b : Int} : COp.fn .ge (.int a) (.int b) = some (.bl (decide (b ≤ a))) := rfl
theorem cop_eq_b {a b : Bool} : COp.fn .eq (.bl a) (.bl b) = some (.bl (decide (a = b))) := by
  cases a <;> cases b <;> rfl
theorem cop_ne_b {a b : Bool} : COp.fn .ne (.bl a) (.bl b) = some (.bl (!decide (a = b))) := by
  cases a <;> cases b <;> rfl
theorem cop_eq_i {a b : Int} : COp.fn .eq (.int a) (.int b) = some (.bl (decide (a = b))) := rfl
theorem cop_ne_i {a b : Int} : COp.fn .ne (.int a) (.int b) = some (.bl (!decide (a = b))) := rfl
theorem cop_eq {z : Bool} (h : eqD x y = some z) : COp.fn .eq x y = some (.bl z) := by
  show (eqX x y).map D.bl = _
  rw [eqX_of h]; rfl
theorem cop_ne {z : Bool} (h : eqD x y = some z) : COp.fn .ne x y = some (.bl (!z)) := by
  show (eqD x y).map _ = _
  rw [h]; rfl
theorem abs_i {a : Int} : absL [.int a] = some (.int (if a < 0 then -a else a)) := rfl
theorem max_i {a b : Int} : maxL [.int a, .int b] = some (.int (if b > a then b else a)) := rfl
theorem min_i {a b : Int} : minL [.int a, .int b] = some (.int (if b < a then b else a)) := rfl
theorem len_l {ds : List D} : lenL [.lst ds] = some (.int ds.length) := rfl
theorem len_t {ds : List D} : lenL [.tup ds] = some (.int ds.length) := rfl
theorem tup_l {ds : List D} : tupL [.lst ds] = some (.tup ds) := rfl
theorem tup_t {ds : List D} : tupL [.tup ds] = some (.tup ds) := rfl
theorem int_i {a : Int} : intL [.int a] = some (.int a) := rfl
theorem idx_l {ds : List D} {a : Int} : idxD (.lst ds) (.int a) = atI ds a := rfl
theorem idx_t {ds : List D} {a : Int} : idxD (.tup ds) (.int a) = atI ds a := rfl
theorem atI_n {α : Type} {xs : List α} {n : Nat} : atI xs ((n : Nat) : Int) = xs[n]? := by
  unfold atI ixN
  rw [if_pos (Int.natCast_nonneg n)]
  by_cases h : (n : Int) < xs.length
  · rw [if_pos h]; simp
  · rw [if_neg h]
    rw [List.getElem?_eq_none (by omega)]
    rfl
theorem atI_0 {α : Type} {x : α} {xs : List α} : atI (x :: xs) 0 = some x := by
  rw [show (0 : Int) = ((0 : Nat) : Int) from rfl, atI_n]; rfl
theorem atI_1 {α : Type} {xs : List α} : atI xs 1 = xs[1]? := atI_n (n := 1)
theorem atI_2 {α : Type} {xs : List α} : atI xs 2 = xs[2]? := atI_n (n := 2)
theorem atI_3 {α : Type} {xs : List α} : atI xs 3 = xs[3]? := atI_n (n := 3)
theorem atI_4 {α : Type} {xs : List α} : atI xs 4 = xs[4]? := atI_n (n := 4)
theorem atI_5 {α : Type} {xs : List α} : atI xs 5 = xs[5]? := atI_n (n := 5)
theorem atI_6 {α : Type} {xs : List α} : atI xs 6 = xs[6]? := atI_n (n := 6)
theorem atI_7 {α : Type} {xs : List α} : atI xs 7 = xs[7]? := atI_n (n := 7)
theorem atI_8 {α : Type} {xs : List α} : atI xs 8 = xs[8]? := atI_n (n := 8)
theorem atI_9 {α : Type} {xs : List α} : atI xs 9 = xs[9]? := atI_n (n := 9)
theorem atI_m1 {α : Type} {xs : List α} : atI xs (-1) = xs[xs.length - 1]? := by
  unfold atI ixN
  cases xs with
  | nil => rfl
  | cons x xs =>
    have h : ¬ (0 : Int) ≤ -1 := by decide
    have h2 : -(((x :: xs).length : Nat) : Int) ≤ -1 := by rw [List.length_cons]; omega
    rw [if_neg h, if_pos h2]
    have e : (-1 + (((x :: xs).length : Nat) : Int)).toNat = (x :: xs).length - 1 := by omega
    rw [e]
    rfl
theorem endD_rt : endD (.rt d δ) = .ok d := rfl
theorem endD_nx : endD (.nx δ) = .ok .non := rfl
theorem endD_rz : endD (.rz c δ) = .rz c := rfl
end
/-! ### comprehensions, step by step -/
section
variable {δ δ1 δ2 : En} {d e : D} {ds es : List D} {f c : Den} {g : D → En → Option En} {t : Option Den} {v : Nat} {vs : List Nat} {k : En → Option (List D × En)} {b : Bool} {s : Sl}
def cM (e : D) (o : Option (List D × En)) : Option (List D × En) := o.map fun q => (e :: q.1, q.2)
theorem cM_s : cM e (some (es, δ)) = some (e :: es, δ) := rfl
def cE (vs : List Nat) (k : En → Option (List D × En)) : RE → Option (List D × En)
  | .ok e δ3 => cM e (k (wipeD δ3 vs))
  | _ => none
theorem cE_ok : cE vs k (.ok e δ) = cM e (k (wipeD δ vs)) := rfl
def cS (f : Den) (vs : List Nat) (k : En → Option (List D × En)) : Option En → Option (List D × En)
  | some δ1 => cE vs k (f δ1)
  | none => none
theorem cS_s : cS f vs k (some δ) = cE vs k (f δ) := rfl
def cB (f : Den) (vs : List Nat) (k : En → Option (List D × En)) : RE → Option (List D × En)
  | .ok (.bl b) δ2 => if b = true then cE vs k (f δ2) else k (wipeD δ2 vs)
  | _ => none
theorem cB_ok : cB f vs k (.ok (.bl b) δ) = if b = true then cE vs k (f δ) else k (wipeD δ vs) := rfl
def cT (c f : Den) (vs : List Nat) (k : En → Option (List D × En)) : Option En → Option (List D × En)
  | some δ1 => cB f vs k (c δ1)
  | none => none
theorem cT_s : cT c f vs k (some δ) = cB f vs k (c δ) := rfl
theorem compF_n : compF g t f vs [] δ = some ([], δ) := rfl
theorem compF_0 : compF g none f vs (d :: ds) δ = cS f vs (compF g none f vs ds) (g d δ) := by
  show ((g d δ).bind fun δ1 => (tstO none δ1).bind fun p => if p.1 then (match f p.2 with
      | .ok e δ3 => (compF g none f vs ds (wipeD δ3 vs)).map fun q => (e :: q.1, q.2)
      | _ => none) else compF g none f vs ds (wipeD p.2 vs)) = _
  cases g d δ with
  | none => rfl
  | some δ1 =>
    show (match f δ1 with
      | .ok e δ3 => (compF g none f vs ds (wipeD δ3 vs)).map fun q => (e :: q.1, q.2)
      | _ => none) = cE vs _ (f δ1)
    cases f δ1 <;> rfl
theorem compF_1 : compF g (some c) f vs (d :: ds) δ = cT c f vs (compF g (some c) f vs ds) (g d δ) := by
  show ((g d δ).bind fun δ1 => (tstO (some c) δ1).bind fun p => if p.1 then (match f p.2 with
      | .ok e δ3 => (compF g (some c) f vs ds (wipeD δ3 vs)).map fun q => (e :: q.1, q.2)
      | _ => none) else compF g (some c) f vs ds (wipeD p.2 vs)) = _
  cases g d δ with
  | none => rfl
  | some δ1 =>
    show ((match c δ1 with
      | .ok (.bl b) δ1 => some (b, δ1)
      | _ => none).bind fun (p : Bool × En) => if p.1 then (match f p.2 with
      | .ok e δ3 => (compF g (some c) f vs ds (wipeD δ3 vs)).map fun (q : List D × En) => (e :: q.1, q.2)
      | _ => none) else compF g (some c) f vs ds (wipeD p.2 vs)) = cB f vs (compF g (some c) f vs ds) (c δ1)
    cases c δ1 with
    | rz c δ => rfl
    | bad => rfl
    | ok d δ2 =>
      cases d with
      | bl b =>
        cases b with
        | true =>
          show (match f δ2 with
            | .ok e δ3 => (compF g (some c) f vs ds (wipeD δ3 vs)).map fun q => (e :: q.1, q.2)
            | _ => none) = cE vs _ (f δ2)
          cases f δ2 <;> rfl
        | false => rfl
      | _ => rfl
/-- a comprehension whose every turn comes back to where it was -/
theorem compF_map {h : D → D} : ∀ {ds : List D}, (∀ d ∈ ds, ∃ δ1, g d δ = some δ1 ∧ ∃ δ3, f δ1 = .ok (h d) δ3 ∧ wipeD δ3 vs = δ) → compF g none f vs ds δ = some (ds.map h, δ)
  | [], _ => rfl
  | d :: ds, H => by
    obtain ⟨δ1, e1, δ3, e2, e3⟩ := H d List.mem_cons_self
    rw [compF_0, e1, cS_s, e2, cE_ok, e3, compF_map fun d hd => H d (List.mem_cons_of_mem _ hd)]
    rfl
theorem compF_fil {p : D → Bool} {h : D → D} : ∀ {ds : List D}, (∀ d ∈ ds, ∃ δ1, g d δ = some δ1 ∧ ∃ δ2, c δ1 = .ok (.bl (p d)) δ2 ∧ (p d = true → ∃ δ3, f δ2 = .ok (h d) δ3 ∧ wipeD δ3 vs = δ) ∧ (p d = false → wipeD δ2 vs = δ)) → compF g (some c) f vs ds δ = some ((ds.filter p).map h, δ)
  | [], _ => rfl
  | d :: ds, H => by
    obtain ⟨δ1, e1, δ2, e2, h1, h2⟩ := H d List.mem_cons_self
    have r := compF_fil (ds := ds) fun d hd => H d (List.mem_cons_of_mem _ hd)
    rw [compF_1, e1, cT_s, e2, cB_ok]
    cases hp : p d with
    | true =>
      obtain ⟨δ3, e3, e4⟩ := h1 hp
      rw [if_pos rfl, e3, cE_ok, e4, r, List.filter_cons_of_pos hp]
      rfl
    | false => rw [if_neg (by simp), h2 hp, r, List.filter_cons_of_neg (by simp [hp])]
def kCompR (δ1 : En) (vs : List Nat) : Option (List D × En) → RF
  | some (es, δ2) => .ok (.lst es) (restore δ1 δ2 vs)
  | none => .bad
theorem kCompR_s : kCompR δ vs (some (es, δ2)) = .ok (.lst es) (restore δ δ2 vs) := rfl
def kComp (g : D → En → Option En) (t : Option Den) (f : Den) (vs : List Nat) : RI → RF
  | .ok ds δ1 => if okWipe δ1 vs && decide (ds.length ≤ 1000000) then kCompR δ1 vs (compF g t f vs ds (wipeD δ1 vs)) else .bad
  | .rz c δ => .rz c δ
  | .bad => .bad
theorem fComp_ {i : En → RI} : fComp i g t f vs δ = kComp g t f vs (i δ) := by
  unfold fComp kComp
  cases i δ with
  | rz c δ => rfl
  | bad => rfl
  | ok ds δ1 =>
    show (if okWipe δ1 vs && decide (ds.length ≤ 1000000) then (match compF g t f vs ds (wipeD δ1 vs) with
      | some (es, δ2) => RF.ok (.lst es) (restore δ1 δ2 vs)
      | none => .bad) else .bad) = if okWipe δ1 vs && decide (ds.length ≤ 1000000) then kCompR δ1 vs (compF g t f vs ds (wipeD δ1 vs)) else .bad
    congr 1
    all_goals (cases compF g t f vs ds (wipeD δ1 vs) <;> rfl)
def cmpBKK (s : Option Sl) (i : Nat) (g : D → En → Option En) (t : Option Den) (f : Den) (vs : List Nat) (δ : En) : RF := match s with
  | some (.ow (.lst ds)) => ownB i ds (fComp (iOk ds) g t f vs (δ.set i .no))
  | _ => fComp (iSeq (dVar i)) g t f vs δ
theorem fCompB_ {i : Nat} : fCompB i g t f vs δ = cmpBKK δ[i]? i g t f vs δ := rfl
theorem cmpBKK_ow {i : Nat} {ds : List D} : cmpBKK (some (.ow (.lst ds))) i g t f vs δ = ownB i ds (fComp (iOk ds) g t f vs (δ.set i .no)) := rfl
theorem cmpBKK_va {i : Nat} {d : D} : cmpBKK (some (.va d)) i g t f vs δ = fComp (iSeq (dVar i)) g t f vs δ := rfl
theorem iOk_ {ds : List D} : iOk ds δ = .ok ds δ := rfl
theorem ownB_ok {i : Nat} {ds : List D} {o : O} : ownB i ds (.ok o δ) = ownBK δ[i]? i ds o δ := rfl
theorem ownBK_no {i : Nat} {ds : List D} {o : O} : ownBK (some .no) i ds o δ = .ok o (δ.set i (.ow (.lst ds))) := rfl
theorem kComp_ok (h : okWipe δ vs = true) (l : ds.length ≤ 1000000) : kComp g t f vs (.ok ds δ) = kCompR δ vs (compF g t f vs ds (wipeD δ vs)) := by
  show (if okWipe δ vs && decide (ds.length ≤ 1000000) then _ else _) = _
  rw [h, decide_eq_true l]
  rfl
theorem kComp_if : kComp g t f vs (.ok ds δ) = if (okWipe δ vs && decide (ds.length ≤ 1000000)) = true then kCompR δ vs (compF g t f vs ds (wipeD δ vs)) else .bad := rfl
theorem wipeD_n : wipeD δ [] = δ := rfl
theorem wipeD_c : wipeD δ (v :: vs) = (wipeD δ vs).set v .no := rfl
def okS : Option Sl → Bool
  | some .no => true
  | some (.va _) => true
  | _ => false
theorem okWipe_n : okWipe δ [] = true := rfl
theorem okWipe_c : okWipe δ (v :: vs) = (okS δ[v]? && okWipe δ vs) := rfl
theorem okS_no : okS (some .no) = true := rfl
theorem okS_va : okS (some (.va d)) = true := rfl
def rsK (s : Option Sl) (v : Nat) (δ : En) : En := match s with
  | some s => δ.set v s
  | none => δ
theorem restore_n : restore δ1 δ2 [] = δ2 := rfl
theorem restore_c : restore δ1 δ2 (v :: vs) = rsK δ1[v]? v (restore δ1 δ2 vs) := rfl
theorem rsK_s : rsK (some s) v δ = δ.set v s := rfl
end
/-! ### zip, enumerate -/
section
variable {δ : En} {d : D} {a b ds es : List D} {g : List D → Option (List D)} {fs : List Den} {n : Nat} {x y : D}
def lsO (o : Option (List D)) (δ : En) : RI := match o with
  | some es => .ok es δ
  | none => .bad
theorem lsO_s : lsO (some es) δ = .ok es δ := rfl
def lsK (g : List D → Option (List D)) : RA → RI
  | .ok ds δ1 => lsO (g ds) δ1
  | .rz c δ => .rz c δ
  | .bad => .bad
theorem iLs_ : iLs g fs δ = lsK g (dArgs fs δ) := by
  unfold iLs lsK lsO
  cases dArgs fs δ <;> rfl
theorem lsK_ok : lsK g (.ok ds δ) = lsO (g ds) δ := rfl
theorem zipL_l : zipL [.lst a, .lst b] = some (zipD a b) := rfl
theorem rng3L_i {i j c : Int} (h : rgOk i j c = true) : rng3L [.int i, .int j, .int c] = some (rngC i c (Builtin.Range.rangeSize i j c).toNat) := if_pos h
theorem rngC_0 {i c : Int} : rngC i c 0 = [] := rfl
theorem rngC_s {i c : Int} {n : Nat} : rngC i c (n + 1) = .int i :: rngC (i + c) c n := rfl
theorem zipL_t : zipL [.tup a, .tup b] = some (zipD a b) := rfl
theorem zipL_m : zipL [.tup a, .lst b] = some (zipD a b) := rfl
theorem zipD_c : zipD (x :: a) (y :: b) = .tup [x, y] :: zipD a b := rfl
theorem zipD_n : zipD [] b = [] := rfl
theorem enuL_l : enuL [.lst a] = some (enuD 0 a) := rfl
theorem enuL_t : enuL [.tup a] = some (enuD 0 a) := rfl
theorem enuD_c : enuD n (x :: a) = .tup [.int n, x] :: enuD (n + 1) a := rfl
theorem enuD_n : enuD n [] = [] := rfl
end
/-! ### what is taken, what is one's own -/
section
variable {δ : En} {d x y : D} {a b ds : List D} {fa fb : Den} {fs : List Den} {ps : List (Option Den)} {g : List D → RD} {i q : Nat} {o r : O} {c : Exc} {f : FDen}
def ownAtK : Option Sl → Option O
  | some (.ow o) => some o
  | some (.pi o) => some o
  | _ => none
theorem ownAt_ : ownAt δ i = ownAtK δ[i]? := by
  unfold ownAt ownAtK
  cases δ[i]? with
  | none => rfl
  | some s => cases s <;> rfl
theorem ownAtK_ow : ownAtK (some (.ow o)) = some o := rfl
theorem ownAtK_pi : ownAtK (some (.pi o)) = some o := rfl
def soK (s : Option Sl) (i : Nat) (o : O) (δ : En) : En := match s with
  | some (.ow _) => δ.set i (.ow o)
  | some (.pi _) => δ.set i (.pi o)
  | _ => δ
theorem setOwn_ : setOwn δ i o = soK δ[i]? i o δ := by
  unfold setOwn soK
  cases δ[i]? with
  | none => rfl
  | some s => cases s <;> rfl
theorem soK_ow : soK (some (.ow r)) i o δ = δ.set i (.ow o) := rfl
theorem soK_pi : soK (some (.pi r)) i o δ = δ.set i (.pi o) := rfl
def kCP (g : List D → RD) (q i : Nat) : List D → En → RE := fun ds δ => callPK g q i (ownAt δ i) ds δ
def kCPF (g : List D → RD) (q i : Nat) : List D → En → RF := fun ds δ => callPKF g q i (ownAt δ i) ds δ
def cPK (s : Option O) (g : List D → RD) (q i : Nat) (r : RA) : RE := match s with
  | some _ => bindA r (kCP g q i)
  | none => .bad
def cPKF (s : Option O) (g : List D → RD) (q i : Nat) (r : RA) : RF := match s with
  | some _ => bindAF r (kCPF g q i)
  | none => .bad
theorem dCallP_ : dCallP g q i ps δ = cPK (ownAt δ i) g q i (dArgsP ps δ) := by
  unfold dCallP cPK
  cases ownAt δ i <;> rfl
theorem fCallP_ : fCallP g q i ps δ = cPKF (ownAt δ i) g q i (dArgsP ps δ) := by
  unfold fCallP cPKF
  cases ownAt δ i <;> rfl
theorem cPK_s {r : RA} : cPK (some o) g q i r = bindA r (kCP g q i) := rfl
theorem cPKF_s {r : RA} : cPKF (some o) g q i r = bindAF r (kCPF g q i) := rfl
def kCB (g : List D → RD) (q i : Nat) : List D → En → RE := fun ds δ => callBK g q (ownAt δ i) ds δ
def cBK (s : Option O) (g : List D → RD) (q i : Nat) (r : RA) : RE := match s with
  | some _ => bindA r (kCB g q i)
  | none => .bad
theorem dCallB_ : dCallB g q i ps δ = cBK (ownAt δ i) g q i (dArgsP ps δ) := by
  unfold dCallB cBK
  cases ownAt δ i <;> rfl
theorem cBK_s {r : RA} : cBK (some o) g q i r = bindA r (kCB g q i) := rfl
theorem kCB_ : kCB g q i ds δ = callBK g q (ownAt δ i) ds δ := rfl
theorem callBK_s {es : List D} : callBK g q (some (.lst es)) ds δ = flatR (g (ds.set q (.lst es))) δ := rfl
theorem flatR_ok : flatR (.ok d) δ = if flat d = true then .ok d δ else .bad := rfl
theorem flatR_ow {es : List D} : flatR (.ow (.lst es)) δ = if flats es = true then .ok (.lst es) δ else .bad := rfl
theorem flatR_rz {c : Nat} : flatR (.rz ⟨c, []⟩) δ = .rz ⟨c, []⟩ δ := rfl
theorem flat_n : flat .non = true := by unfold flat; rfl
theorem flat_b {b : Bool} : flat (.bl b) = true := by unfold flat; rfl
theorem flat_i {i : Int} : flat (.int i) = true := by unfold flat; rfl
theorem flat_s {x : Str} : flat (.str x) = true := by unfold flat; rfl
theorem flat_t {ds : List D} : flat (.tup ds) = flats ds := by rw [flat]
theorem flats_n : flats [] = true := by unfold flats; rfl
theorem flats_c {ds : List D} : flats (d :: ds) = (flat d && flats ds) := by rw [flats]
theorem kCP_ : kCP g q i ds δ = callPK g q i (ownAt δ i) ds δ := rfl
theorem kCPF_ : kCPF g q i ds δ = callPKF g q i (ownAt δ i) ds δ := rfl
theorem callPK_s : callPK g q i (some o) ds δ = ofP (g (ds.set q (ownD o))) i δ := rfl
theorem callPKF_s : callPKF g q i (some o) ds δ = ofPF (g (ds.set q (ownD o))) i δ := rfl
theorem ofP_d : ofP (.okp d o) i δ = .ok d (setOwn δ i o) := rfl
theorem ofP_o : ofP (.owp r o) i δ = .ok (ownD r) (setOwn δ i o) := rfl
theorem ofPF_o : ofPF (.owp r o) i δ = .ok r (setOwn δ i o) := rfl
def kArgN : List D → En → RA := fun ds δ => .ok (.non :: ds) δ
def kArgP (ps : List (Option Den)) : D → En → RA := fun d δ => bindAA (dArgsP ps δ) (kArg2 d)
theorem dArgsP_n : dArgsP [] δ = .ok [] δ := rfl
theorem dArgsP_o : dArgsP (none :: ps) δ = bindAA (dArgsP ps δ) kArgN := rfl
theorem dArgsP_c : dArgsP (some fa :: ps) δ = consA (fa δ) (kArgP ps) := rfl
theorem kArgN_ : kArgN ds δ = .ok (.non :: ds) δ := rfl
theorem kArgP_ : kArgP ps d δ = bindAA (dArgsP ps δ) (kArg2 d) := rfl
def kCallF (g : List D → RD) : List D → En → RF := fun ds δ => ofDF (g ds) δ
theorem fCall_ : fCall g fs δ = bindAF (dArgs fs δ) (kCallF g) := rfl
theorem kCallF_ : kCallF g ds δ = ofDF (g ds) δ := rfl
theorem ofDF_ow : ofDF (.ow o) δ = .ok o δ := rfl
theorem ofD_ow : ofD (.ow o) δ = .ok (ownD o) δ := rfl
theorem sRetF_ : sRetF f δ = retFK (f δ) := rfl
theorem retFK_ok : retFK (.ok o δ) = .ro o δ := rfl
theorem sRetO_ : sRetO i δ = retOK δ[i]? i δ := rfl
theorem retOK_ow : retOK (some (.ow o)) i δ = .ro o (δ.set i .no) := rfl
theorem bindS_ro {k : En → RS} : bindS (.ro o δ) k = .ro o δ := rfl
theorem loopK_ro {ws : List Nat} {k : En → RS} : loopK ws (.ro o δ) k = .ro o δ := rfl
theorem endD_ro : endD (.ro o δ) = .ow o := rfl
def epK (s : Option Sl) (d : D) : RD := match s with
  | some (.pi o) => .okp d o
  | _ => .bad
def epR (s : Option Sl) (r : O) : RD := match s with
  | some (.pi o) => .owp r o
  | _ => .bad
theorem endP_rt : endP q (.rt d δ) = epK δ[q]? d := rfl
theorem endP_nx : endP q (.nx δ) = epK δ[q]? .non := rfl
theorem endP_ro : endP q (.ro r δ) = epR δ[q]? r := rfl
theorem epK_pi : epK (some (.pi o)) d = .okp d o := rfl
theorem epR_pi : epR (some (.pi o)) r = .owp r o := rfl
def kFA2 (x : D) : D → En → RF := fun y δ => catK x y δ
def kFA (fb : Den) : D → En → RF := fun x δ => bindEF (fb δ) (kFA2 x)
theorem fAdd_ : fAdd fa fb δ = bindEF (fa δ) (kFA fb) := rfl
theorem kFA_ : kFA fb x δ = bindEF (fb δ) (kFA2 x) := rfl
theorem kFA2_ : kFA2 x y δ = catK x y δ := rfl
theorem catK_l (h : a.length + b.length ≤ 1000000) : catK (.lst a) (.lst b) δ = .ok (.lst (a ++ b)) δ := if_pos h
def kLs : D → En → RF := fun x δ => listK x δ
theorem fList_ : fList fa δ = bindEF (fa δ) kLs := rfl
theorem kLs_ : kLs x δ = listK x δ := rfl
theorem listK_l : listK (.lst a) δ = .ok (.lst a) δ := rfl
theorem listK_t : listK (.tup a) δ = .ok (.lst a) δ := rfl
theorem addD_ll (h : a.length + b.length ≤ 1000000) : addD (.lst a) (.lst b) = some (.lst (a ++ b)) := if_pos h
theorem addD_tt (h : a.length + b.length ≤ 1000000) : addD (.tup a) (.tup b) = some (.tup (a ++ b)) := if_pos h
theorem peekK_pi : peekK (some (.pi o)) = some (ownD o) := rfl
theorem ixKK_pi {k : Int} : ixKK (some (.pi (.lst ds))) (.int k) δ = ofO (atI ds k) δ := rfl
theorem appS_pi {r : RE} {k : D → En → RS} : appS (some (.pi (.lst ds))) r k = bindES r k := rfl
theorem appK_pi (h : ds.length < 1000000) : appK (some (.pi (.lst ds))) i d δ = .nx (δ.set i (.pi (.lst (ds ++ [d])))) := if_pos h
def sjO (pin : Bool) (i : Nat) (d : D) (ds : List D) (δ : En) : Option Nat → RS
  | some j => .nx (δ.set i (if pin = true then .pi (.lst (ds.set j d)) else .ow (.lst (ds.set j d))))
  | none => .bad
theorem subO_pi_ {k : Int} : subO (some (.pi (.lst ds))) i d (.int k) δ = sjO true i d ds δ (ixN ds.length k) := by
  show (match ixN ds.length k with | some j => RS.nx (δ.set i (.pi (.lst (ds.set j d)))) | none => .bad) = _
  cases ixN ds.length k <;> rfl
theorem subO_ow_ {k : Int} : subO (some (.ow (.lst ds))) i d (.int k) δ = sjO false i d ds δ (ixN ds.length k) := by
  show (match ixN ds.length k with | some j => RS.nx (δ.set i (.ow (.lst (ds.set j d)))) | none => .bad) = _
  cases ixN ds.length k <;> rfl
theorem sjO_s {pin : Bool} {j : Nat} : sjO pin i d ds δ (some j) = .nx (δ.set i (if pin = true then .pi (.lst (ds.set j d)) else .ow (.lst (ds.set j d)))) := rfl
theorem ixN_nn {n : Nat} {k : Int} (h : 0 ≤ k ∧ k < n) : ixN n k = some k.toNat := by
  unfold ixN
  simp [h.1, h.2]
theorem subO_pi {k : Int} {j : Nat} (h : ixN ds.length k = some j) : subO (some (.pi (.lst ds))) i d (.int k) δ = .nx (δ.set i (.pi (.lst (ds.set j d)))) := by
  show (match ixN ds.length k with | some j => RS.nx (δ.set i (.pi (.lst (ds.set j d)))) | none => .bad) = _
  rw [h]
end
/-! ### isinstance -/
theorem isi_int_int {a : Int} : isiD "int" (.int a) = some (.bl true) := by rfl
theorem isi_int_bl {a : Bool} : isiD "int" (.bl a) = some (.bl true) := by rfl
theorem isi_int_non : isiD "int" .non = some (.bl false) := by rfl
theorem isi_int_str {a : Str} : isiD "int" (.str a) = some (.bl false) := by rfl
theorem isi_int_tup {a : List D} : isiD "int" (.tup a) = some (.bl false) := by rfl
theorem isi_int_lst {a : List D} : isiD "int" (.lst a) = some (.bl false) := by rfl
theorem isi_int_dic {a : List Key} {b : List D} : isiD "int" (.dic a b) = some (.bl false) := by rfl
theorem isi_bool_int {a : Int} : isiD "bool" (.int a) = some (.bl false) := by rfl
theorem isi_bool_bl {a : Bool} : isiD "bool" (.bl a) = some (.bl true) := by rfl
theorem isi_bool_non : isiD "bool" .non = some (.bl false) := by rfl
theorem isi_bool_str {a : Str} : isiD "bool" (.str a) = some (.bl false) := by rfl
theorem isi_bool_tup {a : List D} : isiD "bool" (.tup a) = some (.bl false) := by rfl
theorem isi_bool_lst {a : List D} : isiD "bool" (.lst a) = some (.bl false) := by rfl
theorem isi_bool_dic {a : List Key} {b : List D} : isiD "bool" (.dic a b) = some (.bl false) := by rfl
theorem isi_tup_int {a : Int} : isiD "tuple" (.int a) = some (.bl false) := by rfl
theorem isi_tup_bl {a : Bool} : isiD "tuple" (.bl a) = some (.bl false) := by rfl
theorem isi_tup_non : isiD "tuple" .non = some (.bl false) := by rfl
theorem isi_tup_str {a : Str} : isiD "tuple" (.str a) = some (.bl false) := by rfl
theorem isi_tup_tup {a : List D} : isiD "tuple" (.tup a) = some (.bl true) := by rfl
theorem isi_tup_lst {a : List D} : isiD "tuple" (.lst a) = some (.bl false) := by rfl
theorem isi_tup_dic {a : List Key} {b : List D} : isiD "tuple" (.dic a b) = some (.bl false) := by rfl
theorem isi_lst_tup {a : List D} : isiD "list" (.tup a) = some (.bl false) := by rfl
theorem isi_lst_lst {a : List D} : isiD "list" (.lst a) = some (.bl true) := by rfl
theorem isi2_lt_l {a : List D} : isi2D "list" "tuple" (.lst a) = some (.bl true) := by rfl
theorem isi2_lt_t {a : List D} : isi2D "list" "tuple" (.tup a) = some (.bl true) := by rfl
theorem isi2_lt_i {a : Int} : isi2D "list" "tuple" (.int a) = some (.bl false) := by rfl
theorem isi2_lt_n : isi2D "list" "tuple" .non = some (.bl false) := by rfl
theorem isi2_lt_b {a : Bool} : isi2D "list" "tuple" (.bl a) = some (.bl false) := by rfl
theorem isi2_lt_s {a : Str} : isi2D "list" "tuple" (.str a) = some (.bl false) := by rfl
section
variable {f : FDen} {n : Int} {δ : En} {ds : List D}
theorem fRep_ : fRep f n δ = repK n (f δ) := rfl
theorem repK_if : repK n (.ok (.lst ds) δ) = if 0 ≤ n ∧ n < 1000000 ∧ ds.length * n.toNat ≤ 1000000 then .ok (.lst (List.replicate n.toNat ds).flatten) δ else .bad := rfl
end
/-! ### equality of lists and tuples, step by step -/
mutual
def shp : Nat → D → Bool
  | _, .non => true
  | _, .bl _ => true
  | _, .int _ => true
  | _, .str x => PyData.strOk x
  | n + 1, .tup ds => shps n ds
  | n + 1, .lst ds => shps n ds
  | _, _ => false
def shps : Nat → List D → Bool
  | _, [] => true
  | n, d :: ds => shp n d && shps n ds
end
mutual
theorem shp_ok : ∀ (d : D) (n : Nat), shp n d = true → (toPy d).canLay0 = true ∧ (toPy d).depth ≤ n
  | .non, n, h => ⟨by unfold toPy; rfl, by unfold toPy; exact Nat.zero_le _⟩
  | .bl _, n, h => ⟨by unfold toPy; rfl, by unfold toPy; exact Nat.zero_le _⟩
  | .int _, n, h => ⟨by unfold toPy; rfl, by unfold toPy; exact Nat.zero_le _⟩
  | .str x, n, h => ⟨by unfold toPy PyData.canLay0; unfold shp at h; exact h, by unfold toPy; exact Nat.zero_le _⟩
  | .tup ds, 0, h => by unfold shp at h; cases h
  | .lst ds, 0, h => by unfold shp at h; cases h
  | .dic _ _, n, h => by unfold shp at h; cases h
  | .tup ds, n + 1, h => by
    unfold shp at h
    obtain ⟨a, b⟩ := shps_ok ds n h
    unfold toPy PyData.canLay0 PyData.depth
    exact ⟨a, Nat.succ_le_succ b⟩
  | .lst ds, n + 1, h => by
    unfold shp at h
    obtain ⟨a, b⟩ := shps_ok ds n h
    unfold toPy PyData.canLay0 PyData.depth
    exact ⟨a, Nat.succ_le_succ b⟩
theorem shps_ok : ∀ (ds : List D) (n : Nat), shps n ds = true → PyData.canLayAll0 (toPys ds) = true ∧ PyData.depthAll (toPys ds) ≤ n
  | [], n, h => ⟨by unfold toPys; rfl, by unfold toPys; exact Nat.zero_le _⟩
  | d :: ds, n, h => by
    unfold shps at h
    rw [Bool.and_eq_true] at h
    obtain ⟨a, b⟩ := shp_ok d n h.1
    obtain ⟨a', b'⟩ := shps_ok ds n h.2
    unfold toPys PyData.canLayAll0 PyData.depthAll
    rw [a, a']
    exact ⟨rfl, Nat.max_le.mpr ⟨b, b'⟩⟩
end
def eq1 (d e : D) : Bool := PyData.eqv (toPy d) (toPy e)
def eqs (a b : List D) : Bool := PyData.eqvAll (toPys a) (toPys b)
theorem eqD_shp {d e : D} (h : shp 64 d = true) (h' : shp 64 e = true) : eqD d e = some (eq1 d e) := by
  obtain ⟨a, b⟩ := shp_ok d 64 h
  obtain ⟨a', b'⟩ := shp_ok e 64 h'
  unfold eqD SeqAt.shaped
  rw [a, a', decide_eq_true b, decide_eq_true b']
  rfl
section
variable {a b : List D} {x y : D} {i j : Int}
theorem shps_n {n : Nat} : shps n [] = true := by unfold shps; rfl
theorem shps_c {n : Nat} : shps n (x :: a) = (shp n x && shps n a) := by rw [shps]
theorem shp_i {n : Nat} : shp n (.int i) = true := by unfold shp; rfl
theorem shp_b {n : Nat} {k : Bool} : shp n (.bl k) = true := by unfold shp; rfl
theorem shp_non {n : Nat} : shp n .non = true := by unfold shp; rfl
theorem shp_s {n : Nat} {z : Str} : shp n (.str z) = PyData.strOk z := by unfold shp; rfl
theorem shp_t {n : Nat} : shp (n + 1) (.tup a) = shps n a := by rw [shp]
theorem shp_l {n : Nat} : shp (n + 1) (.lst a) = shps n a := by rw [shp]
theorem eq1_tt : eq1 (.tup a) (.tup b) = eqs a b := by unfold eq1 toPy PyData.eqv; rfl
theorem eq1_ll : eq1 (.lst a) (.lst b) = eqs a b := by unfold eq1 toPy PyData.eqv; rfl
theorem eq1_ii : eq1 (.int i) (.int j) = decide (i = j) := by unfold eq1 toPy PyData.eqv; rfl
theorem eq1_bb {i j : Bool} : eq1 (.bl i) (.bl j) = decide (i = j) := by unfold eq1 toPy PyData.eqv; cases i <;> cases j <;> rfl
theorem eq1_ss {i j : Str} : eq1 (.str i) (.str j) = (i == j) := by unfold eq1 toPy PyData.eqv; rfl
theorem eq1_nn : eq1 .non .non = true := by unfold eq1 toPy PyData.eqv; rfl
theorem eq1_nt : eq1 .non (.tup b) = false := by unfold eq1 toPy PyData.eqv; rfl
theorem eq1_tn : eq1 (.tup b) .non = false := by unfold eq1 toPy PyData.eqv; rfl
theorem eqs_nn : eqs [] [] = true := by unfold eqs toPys PyData.eqvAll; rfl
theorem eqs_nc : eqs [] (y :: b) = false := by unfold eqs toPys PyData.eqvAll; rfl
theorem eqs_cn : eqs (x :: a) [] = false := by unfold eqs toPys PyData.eqvAll; rfl
theorem eqs_cc : eqs (x :: a) (y :: b) = (eq1 x y && eqs a b) := by
  unfold eqs eq1
  rw [toPys, toPys, PyData.eqvAll]
theorem cop_eq_tt (h : shp 64 (.tup a) = true) (h' : shp 64 (.tup b) = true) : COp.fn .eq (.tup a) (.tup b) = some (.bl (eqs a b)) := by
  show (eqD _ _).map D.bl = _
  rw [eqD_shp h h', eq1_tt]; rfl
theorem cop_ne_tt (h : shp 64 (.tup a) = true) (h' : shp 64 (.tup b) = true) : COp.fn .ne (.tup a) (.tup b) = some (.bl (!eqs a b)) := by
  show (eqD _ _).map (fun b => D.bl (!b)) = _
  rw [eqD_shp h h', eq1_tt]; rfl
theorem cop_eq_ll (h : shp 64 (.lst a) = true) (h' : shp 64 (.lst b) = true) : COp.fn .eq (.lst a) (.lst b) = some (.bl (eqs a b)) := by
  show (eqD _ _).map D.bl = _
  rw [eqD_shp h h', eq1_ll]; rfl
theorem cop_ne_ll (h : shp 64 (.lst a) = true) (h' : shp 64 (.lst b) = true) : COp.fn .ne (.lst a) (.lst b) = some (.bl (!eqs a b)) := by
  show (eqD _ _).map (fun b => D.bl (!b)) = _
  rw [eqD_shp h h', eq1_ll]; rfl
def bKR (o : Option D) (δ : En) : RE := match o with
  | some (.bl b) => .ok (.bl b) δ
  | _ => .bad
theorem bKK_ {g : D → D → Option D} {δ : En} : bKK (some x) g y δ = bKR (g x y) δ := rfl
theorem bKR_s {k : Bool} {δ : En} : bKR (some (.bl k)) δ = .ok (.bl k) δ := rfl
end
/-! ### is -/
theorem is_bb {n a b : Bool} : isD n (.bl a) (.bl b) = some (.bl (if n = true then !decide (a = b) else decide (a = b))) := rfl
theorem is_nn {n : Bool} : isD n .non .non = some (.bl (!n)) := rfl
theorem is_in {n : Bool} {a : Int} : isD n (.int a) .non = some (.bl n) := rfl
theorem is_tn {n : Bool} {a : List D} : isD n (.tup a) .non = some (.bl n) := rfl
theorem is_ln {n : Bool} {a : List D} : isD n (.lst a) .non = some (.bl n) := rfl
theorem is_bn {n : Bool} {a : Bool} : isD n (.bl a) .non = some (.bl n) := rfl
theorem divOk_B {b : Int} (h : b ≠ 0) (h' : B 8999 b) : divOk b = true := by
  unfold divOk
  have := h'.log2
  rw [decide_eq_true h, decide_eq_true (by omega)]
  rfl
theorem powOk_l {a b : Int} (h : 0 ≤ b) (h1 : b ≤ 1000000) (h2 : a.natAbs < 2 ^ 64) : powOk a b = true := by
  unfold powOk
  rw [decide_eq_true h, decide_eq_true h1, decide_eq_true h2]
  rfl
/-- a loop that comes back to where it was -/
theorem forF_const {ws : List Nat} {g : D → En → Option En} {b : SDen} {δ : En} : ∀ {ds : List D}, (∀ d ∈ ds, ∃ δ1, g d δ = some δ1 ∧ ∃ δ2, b δ1 = .nx δ2 ∧ fgt ws δ2 = δ) → forF ws g b ds δ = .nx δ
  | [], _ => rfl
  | d :: ds, h => by
    obtain ⟨δ1, e1, δ2, e2, e3⟩ := h d List.mem_cons_self
    show (match g d δ with | none => RS.bad | some δ1 => loopK ws (b δ1) (forF ws g b ds)) = _
    rw [e1]
    show loopK ws (b δ1) (forF ws g b ds) = _
    rw [e2]
    show forF ws g b ds (fgt ws δ2) = _
    rw [e3]
    exact forF_const fun d hd => h d (List.mem_cons_of_mem _ hd)
/-- where a turn leaves the frame -/
def finK (ws : List Nat) : RS → Option En
  | .nx δ => some (fgt ws δ)
  | .ct δ => some (fgt ws δ)
  | _ => none
theorem finK_nx {ws : List Nat} {δ : En} : finK ws (.nx δ) = some (fgt ws δ) := rfl
theorem finK_ct {ws : List Nat} {δ : En} : finK ws (.ct δ) = some (fgt ws δ) := rfl
theorem forF_fin {ws : List Nat} {g : D → En → Option En} {b : SDen} {δ : En} : ∀ {ds : List D}, (∀ d ∈ ds, ∃ δ1, g d δ = some δ1 ∧ finK ws (b δ1) = some δ) → forF ws g b ds δ = .nx δ
  | [], _ => rfl
  | d :: ds, h => by
    obtain ⟨δ1, e1, e2⟩ := h d List.mem_cons_self
    show (match g d δ with | none => RS.bad | some δ1 => loopK ws (b δ1) (forF ws g b ds)) = _
    rw [e1]
    show loopK ws (b δ1) (forF ws g b ds) = _
    cases eb : b δ1 with
    | nx δ2 =>
      rw [eb] at e2
      show forF ws g b ds (fgt ws δ2) = _
      rw [Option.some.inj e2]
      exact forF_fin fun d hd => h d (List.mem_cons_of_mem _ hd)
    | ct δ2 =>
      rw [eb] at e2
      show forF ws g b ds (fgt ws δ2) = _
      rw [Option.some.inj e2]
      exact forF_fin fun d hd => h d (List.mem_cons_of_mem _ hd)
    | _ => rw [eb] at e2; cases e2
theorem forF_n {ws : List Nat} {g : D → En → Option En} {b : SDen} {δ : En} : forF ws g b [] δ = .nx δ := rfl
def fK (ws : List Nat) (b : SDen) (k : En → RS) : Option En → RS
  | some δ1 => loopK ws (b δ1) k
  | none => .bad
theorem forF_c {ws : List Nat} {g : D → En → Option En} {b : SDen} {d : D} {ds : List D} {δ : En} : forF ws g b (d :: ds) δ = fK ws b (forF ws g b ds) (g d δ) := by
  show (match g d δ with | none => RS.bad | some δ1 => loopK ws (b δ1) (forF ws g b ds)) = _
  cases g d δ <;> rfl
theorem fK_s {ws : List Nat} {b : SDen} {k : En → RS} {δ : En} : fK ws b k (some δ) = loopK ws (b δ) k := rfl
theorem forF_step {ws : List Nat} {g : D → En → Option En} {b : SDen} {d : D} {ds : List D} {δ δ1 δ2 : En} (e1 : g d δ = some δ1) (e2 : b δ1 = .nx δ2) : forF ws g b (d :: ds) δ = forF ws g b ds (fgt ws δ2) := by
  show (match g d δ with | none => RS.bad | some δ1 => loopK ws (b δ1) (forF ws g b ds)) = _
  rw [e1]
  show loopK ws (b δ1) (forF ws g b ds) = _
  rw [e2]
  rfl
theorem whileF_step {ws : List Nat} {c : Den} {b : SDen} {n : Nat} {δ δ1 δ2 : En} (e1 : c δ = .ok (.bl true) δ1) (e2 : b δ1 = .nx δ2) : whileF ws c b (n + 1) δ = whileF ws c b n (fgt ws δ2) := by
  show bindTS (c δ) (fun k δ1 => if k then loopK ws (b δ1) (whileF ws c b n) else .nx δ1) = _
  rw [e1]
  show loopK ws (b δ1) (whileF ws c b n) = _
  rw [e2]
  rfl
theorem whileF_end {ws : List Nat} {c : Den} {b : SDen} {n : Nat} {δ δ1 : En} (e1 : c δ = .ok (.bl false) δ1) : whileF ws c b (n + 1) δ = .nx δ1 := by
  show bindTS (c δ) (fun k δ1 => if k then loopK ws (b δ1) (whileF ws c b n) else .nx δ1) = _
  rw [e1]
  rfl
theorem rngD_0 {lo : Int} : rngD lo 0 = [] := rfl
theorem rngD_s {lo : Int} {n : Nat} : rngD lo (n + 1) = .int lo :: rngD (lo + 1) n := rfl
theorem mem_rngD {d : D} : ∀ {lo : Int} {n : Nat}, d ∈ rngD lo n → ∃ k : Int, d = .int k ∧ lo ≤ k ∧ k < lo + n
  | lo, 0, h => by cases h
  | lo, n + 1, h => by
    rcases List.mem_cons.mp h with e | e
    · exact ⟨lo, e, Int.le_refl _, by omega⟩
    · obtain ⟨k, e, h1, h2⟩ := mem_rngD e
      exact ⟨k, e, by omega, by omega⟩
/-! ### exceptions -/
section
variable {rs : List Nat} {c i k : Nat} {δ δ1 : En} {d : D} {fb fu : SDen} {hs : List (Nat × SDen)} {e : Exc} {f : SDen}
theorem sRaise_ : sRaise c δ = .rz ⟨c, []⟩ δ := rfl
def tryK (rs : List Nat) (c i : Nat) (fu : SDen) (r : RS) : RS :=
  match r with
  | .rz e δ1 => tryA1 rs c i fu e δ1
  | r => r
theorem sTryA_ : sTryA rs fb c i fu δ = tryK rs c i fu (fb δ) := rfl
theorem tryK_nx : tryK rs c i fu (.nx δ) = .nx δ := rfl
theorem tryK_rt : tryK rs c i fu (.rt d δ) = .rt d δ := rfl
theorem tryK_ro {o : O} : tryK rs c i fu (.ro o δ) = .ro o δ := rfl
theorem tryK_rz : tryK rs c i fu (.rz ⟨k, []⟩ δ) = if rs.contains k = true then (if subE k c = true then setX i k δ fun δ1 => catchS i (fu δ1) else .rz ⟨k, []⟩ δ) else .bad := rfl
def tryNK (rs : List Nat) (hs : List (Nat × SDen)) (r : RS) : RS :=
  match r with
  | .rz e δ1 => tryN1 rs hs e δ1
  | r => r
theorem sTryN_ : sTryN rs fb hs δ = tryNK rs hs (fb δ) := rfl
theorem tryNK_nx : tryNK rs hs (.nx δ) = .nx δ := rfl
theorem tryNK_rt : tryNK rs hs (.rt d δ) = .rt d δ := rfl
theorem tryNK_ro {o : O} : tryNK rs hs (.ro o δ) = .ro o δ := rfl
theorem tryNK_rz : tryNK rs hs (.rz ⟨k, []⟩ δ) = if rs.contains k = true then pickH ⟨k, []⟩ δ hs else .bad := rfl
theorem pickH_n : pickH e δ [] = .rz e δ := rfl
theorem pickH_c : pickH e δ ((c, f) :: hs) = if subE e.c c = true then noRz (f δ) else pickH e δ hs := rfl
theorem noRz_nx : noRz (.nx δ) = .nx δ := rfl
theorem noRz_rt : noRz (.rt d δ) = .rt d δ := rfl
def setXK (s : Option Sl) (i c : Nat) (δ : En) (k : En → RS) : RS :=
  match s with
  | none => .bad
  | some (.pi _) => .bad
  | some _ => k (δ.set i (.va (.exc c)))
theorem setX_ {q : En → RS} : setX i c δ q = setXK δ[i]? i c δ q := rfl
theorem setXK_va {q : En → RS} : setXK (some (.va d)) i c δ q = q (δ.set i (.va (.exc c))) := rfl
theorem setXK_no {q : En → RS} : setXK (some .no) i c δ q = q (δ.set i (.va (.exc c))) := rfl
def clrK (s : Option Sl) (i : Nat) (δ : En) (k : En → RS) : RS :=
  match s with
  | some (.pi _) => .bad
  | _ => k (δ.set i .no)
theorem catchS_nx : catchS i (.nx δ) = clrK δ[i]? i δ .nx := rfl
theorem catchS_rt : catchS i (.rt d δ) = .rt d δ := rfl
theorem clrK_va {q : En → RS} : clrK (some (.va d)) i δ q = q (δ.set i .no) := rfl
theorem dCallT_ {g : List D → RD} {fs : List Den} : dCallT g i fs δ = hotL g i fs δ δ[i]? := rfl
def kHot (g : List D → RD) (c : Nat) (ds : List D) (δ1 : En) : RE := ofD (g (.exc c :: ds)) δ1
theorem hotL_x {g : List D → RD} {fs : List Den} : hotL g i fs δ (some (.va (.exc c))) = bindA (dArgs fs δ) (kHot g c) := rfl
theorem kHot_ {g : List D → RD} {ds : List D} : kHot g c ds δ1 = ofD (g (.exc c :: ds)) δ1 := rfl
theorem isED_x : isED rs i (.exc c) = if rs.contains c = true then some (.bl (subE c i)) else none := rfl
theorem subE_ : subE c k = (c == k || k == 0 || k == 15) := rfl
def dDic : Den := fun δ => .ok (.dic [] []) δ
theorem dDic_ : dDic δ = .ok (.dic [] []) δ := rfl
end
section
variable {δ : En} {d x y k : D} {ds : List D} {fa fb fc fi : Den} {i : Nat} {b : Bool} {c : Exc} {g g' : D → D → Option D} {h : List D → RD} {f : FDen} {o r : O}
theorem dCallN_ : dCallN h f δ = callNK h (f δ) := rfl
theorem fCallN_ : fCallN h f δ = callNKF h (f δ) := rfl
theorem callNK_ok : callNK h (.ok o δ) = ofN (h [ownD o]) δ := rfl
theorem callNK_rz : callNK h (.rz c δ) = .rz c δ := rfl
theorem callNKF_ok : callNKF h (.ok o δ) = ofNF (h [ownD o]) δ := rfl
theorem ofN_p : ofN (.okp d o) δ = .ok d δ := rfl
theorem ofN_w : ofN (.owp r o) δ = .ok (ownD r) δ := rfl
theorem ofNF_w : ofNF (.owp r o) δ = .ok r δ := rfl
theorem dChn_ : dChn g g' fa fb fc δ = bindE (fa δ) (chnK0 g g' fb fc) := rfl
theorem chnK0_ : chnK0 g g' fb fc x δ = bindE (fb δ) (chnK g g' fc x) := rfl
theorem chnK_ : chnK g g' fc x y δ = chnK1 g' fc y (g x y) δ := rfl
theorem chnK1_b : chnK1 g' fc y (some (.bl b)) δ = if b = true then bindE (fc δ) (chnK2 g' y) else .ok (.bl false) δ := by cases b <;> simp [chnK1]
theorem chnK2_ : chnK2 g' y x δ = ofO (g' y x) δ := rfl
theorem shlD_i {i j : Int} : shlD (.int i) (.int j) = if shlOk i j = true then some (.int (i * 2 ^ j.toNat)) else none := rfl
theorem bitD_i {i : Int} : bitD (.int i) = some (.int (Builtin.Int.intBits i : Nat)) := rfl
theorem dstD_l : dstD (.lst ds) = if ds.length < 64 then (tupsOf ds).map (fun ks => .int (cntT ks : Nat)) else none := rfl
theorem fDct_ : fDct fa δ = bindEF (fa δ) dctK := rfl
theorem fDsp_ {fs : List (Den × Den)} : fDsp fs δ = bindAF (dPrs fs δ) dspK := rfl
def dPr2 (r : List (Den × Den)) (k : D) : D → En → RA := fun v δ => bindAA (dPrs r δ) fun ds δ => .ok (k :: v :: ds) δ
def dPr1 (fv : Den) (r : List (Den × Den)) : D → En → RA := fun k δ => consA (fv δ) (dPr2 r k)
theorem dPrs_n : dPrs [] δ = .ok [] δ := rfl
theorem dPrs_c {r : List (Den × Den)} : dPrs ((fa, fb) :: r) δ = consA (fa δ) (dPr1 fb r) := rfl
theorem dPr1_ {r : List (Den × Den)} : dPr1 fb r k δ = consA (fb δ) (dPr2 r k) := rfl
theorem dPr2_ {r : List (Den × Den)} : dPr2 r k x δ = bindAA (dPrs r δ) (fun ds δ => .ok (k :: x :: ds) δ) := rfl
def insS (s : Option O) (r : RE) (q : D → En → RS) : RS := match s with
  | some (.lst _) => bindES r q
  | _ => .bad
def kIns2 (i : Nat) (k : D) : D → En → RS := fun d δ2 => insK i k d (ownAt δ2 i) δ2
def kIns1 (i : Nat) (f : Den) : D → En → RS := fun k δ1 => bindES (f δ1) (kIns2 i k)
theorem sIns_ : sIns i fi fa δ = insS (ownAt δ i) (fi δ) (kIns1 i fa) := by
  unfold sIns insS
  cases ownAt δ i with
  | none => rfl
  | some o => cases o <;> rfl
theorem insS_l {q : D → En → RS} {r : RE} : insS (some (.lst ds)) r q = bindES r q := rfl
theorem kIns1_ : kIns1 i fa k δ = bindES (fa δ) (kIns2 i k) := rfl
theorem kIns2_ : kIns2 i k d δ = insK i k d (ownAt δ i) δ := rfl
theorem insK_l {k : Int} (h : ds.length < 1000000 ∧ 0 ≤ k ∧ k < 9223372036854775808) : insK i (.int k) d (some (.lst ds)) δ = .nx (setOwn δ i (.lst (ds.take k.toNat ++ [d] ++ ds.drop k.toNat))) := if_pos h
def kAugI (q : Bool) (i : Nat) (f : Den) : D → En → RS := fun k δ1 => augIK q i f k (ownAt δ1 i) δ1
theorem sAugI_ {q : Bool} : sAugI q i fi fa δ = insS (ownAt δ i) (fi δ) (kAugI q i fa) := by
  unfold sAugI insS
  cases ownAt δ i with
  | none => rfl
  | some o => cases o <;> rfl
theorem kAugI_ {q : Bool} : kAugI q i fa k δ = augIK q i fa k (ownAt δ i) δ := rfl
def augIA (q : Bool) (i : Nat) (f : Den) (k : Int) (s : Option D) (δ1 : En) : RS := match s with
  | some x => bindES (f δ1) fun d δ2 => augIK2 i (.int k) (augD q x d) δ2
  | none => .bad
def kAug2 (q : Bool) (i : Nat) (k : Int) (x : D) : D → En → RS := fun d δ2 => augIK2 i (.int k) (augD q x d) δ2
theorem augIK_l {q : Bool} {k : Int} : augIK q i fa (.int k) (some (.lst ds)) δ = augIA q i fa k (atI ds k) δ := rfl
theorem augIA_s {q : Bool} {k : Int} : augIA q i fa k (some x) δ = bindES (fa δ) (kAug2 q i k x) := rfl
theorem kAug2_ {q : Bool} {k : Int} : kAug2 q i k x d δ = augIK2 i (.int k) (augD q x d) δ := rfl
theorem augIK2_s : augIK2 i k (some x) δ = subK i x k δ := rfl
theorem augD_i {q : Bool} {a b : Int} : augD q (.int a) (.int b) = some (.int (if q = true then a + b else a - b)) := rfl
theorem sPar3_ {fs : List Den} {j l : Nat} : sPar3 i j l fs δ = par3K i j l (dArgs fs δ) := rfl
def nxO3 : Option En → RS
  | some δ => .nx δ
  | none => .bad
theorem nxO3_s : nxO3 (some δ) = .nx δ := rfl
theorem par3K_ok {j l : Nat} {a b c : D} : par3K i j l (.ok [a, b, c] δ) = nxO3 (((stD i a δ).bind (stD j b)).bind (stD l c)) := by
  show (match st3 i j l a b c δ with
    | some δ => RS.nx δ
    | none => .bad) = _
  unfold st3
  cases stD i a δ with
  | none => rfl
  | some δ1 =>
    dsimp only [Option.bind]
    cases stD j b δ1 with
    | none => rfl
    | some δ2 =>
      dsimp only [Option.bind]
      cases stD l c δ2 <;> rfl
theorem dCmpR_ : dCmpR g i fa δ = bindE (fa δ) (kCmpR g i) := rfl
theorem kCmpR_ : kCmpR g i x δ = bKQ g x (peek δ i) δ := rfl
theorem bKQ_s : bKQ g x (some d) δ = blK (g x d) δ := rfl
theorem blK_b : blK (some (.bl b)) δ = .ok (.bl b) δ := rfl
end
end Z

namespace Z
open PySem PySem.Spec PyProof.Rows L2
/-! ### fractions -/
def fr (q : Rat) : D := .tup [.int q.num, .int (q.den : Int)]
def BR (n : Nat) (q : Rat) : Prop := B n q.num ∧ B n (q.den : Int)
def byQ (a b : Int) : Int := if b < 0 then -(Int.gcd a b : Int) else (Int.gcd a b : Int)
theorem fr_divInt {a b : Int} (h : b ≠ 0) : (Rat.divInt a b).num = a.fdiv (byQ a b) ∧ ((Rat.divInt a b).den : Int) = b.fdiv (byQ a b) := by
  rw [Rat.num_divInt, Rat.den_divInt, if_neg h, Int.gcd_comm b a]
  unfold byQ
  have g0 : 0 ≤ (Int.gcd a b : Int) := by omega
  split
  · next hb =>
    rw [Int.sign_eq_neg_one_of_neg hb, ← Int.neg_fdiv_neg a, ← Int.neg_fdiv_neg b, Int.neg_neg, Int.fdiv_eq_ediv_of_nonneg _ g0, Int.fdiv_eq_ediv_of_nonneg _ g0, Int.natCast_ediv]
    refine ⟨by congr 1; omega, by congr 1; omega⟩
  · next hb =>
    rw [Int.sign_eq_one_of_pos (by omega), Int.fdiv_eq_ediv_of_nonneg _ g0, Int.fdiv_eq_ediv_of_nonneg _ g0, Int.natCast_ediv]
    refine ⟨by congr 1; omega, by congr 1; omega⟩
theorem byQ_ne {a b : Int} (h : b ≠ 0) : byQ a b ≠ 0 := by
  have := Int.gcd_pos_of_ne_zero_right a h
  unfold byQ
  split <;> omega
theorem B.dvd {n : Nat} {g t : Int} (d : g ∣ t) (h : t ≠ 0) (b : B n t) : B n g := by
  have := Int.natAbs_dvd_natAbs.mpr d
  have := Nat.le_of_dvd (by omega) this
  unfold B at *
  omega
theorem byQ_B {n : Nat} {a b : Int} (h : b ≠ 0) (hb : B n b) : B n (byQ a b) := by
  have : B n (Int.gcd a b : Int) := B.dvd (Int.gcd_dvd_right a b) h hb
  unfold byQ
  split
  · exact this.neg
  · exact this
theorem BR.divInt {n : Nat} {a b : Int} (h : b ≠ 0) (ha : B n a) (hb : B n b) : BR n (Rat.divInt a b) := by
  obtain ⟨e1, e2⟩ := fr_divInt (a := a) h
  unfold BR
  rw [e1, e2]
  exact ⟨ha.fdiv _, hb.fdiv _⟩
theorem den_ne (q : Rat) : (q.den : Int) ≠ 0 := by have := q.den_nz; omega
theorem den_pos' (q : Rat) : 0 < (q.den : Int) := by have := q.den_nz; omega
theorem add_divI (p q : Rat) : Rat.divInt (p.num * q.den + q.num * p.den) (p.den * q.den) = p + q := by
  rw [← Rat.divInt_add_divInt _ _ (den_ne p) (den_ne q), Rat.num_divInt_den, Rat.num_divInt_den]
theorem sub_divI (p q : Rat) : Rat.divInt (p.num * q.den - q.num * p.den) (p.den * q.den) = p - q := by
  rw [← Rat.divInt_sub_divInt _ _ (den_ne p) (den_ne q), Rat.num_divInt_den, Rat.num_divInt_den]
theorem mul_divI (p q : Rat) : Rat.divInt (p.num * q.num) (p.den * q.den) = p * q := by
  rw [← Rat.divInt_mul_divInt, Rat.num_divInt_den, Rat.num_divInt_den]
theorem div_divI (p q : Rat) : Rat.divInt (p.num * q.den) (p.den * q.num) = p / q := by
  rw [← Rat.divInt_mul_divInt, Rat.num_divInt_den, ← Rat.inv_def, Rat.div_def]
theorem BR.add {n m : Nat} {p q : Rat} (h : BR n p) (k : BR m q) : BR (n + m + 1) (p + q) := by
  rw [← add_divI]
  refine BR.divInt (Int.mul_ne_zero (den_ne p) (den_ne q)) ?_ ?_
  · apply (B.add (B.mul h.1 k.2) (B.mul k.1 h.2)).mono; omega
  · apply (B.mul h.2 k.2).mono; omega
theorem BR.sub {n m : Nat} {p q : Rat} (h : BR n p) (k : BR m q) : BR (n + m + 1) (p - q) := by
  rw [← sub_divI]
  refine BR.divInt (Int.mul_ne_zero (den_ne p) (den_ne q)) ?_ ?_
  · apply (B.sub (B.mul h.1 k.2) (B.mul k.1 h.2)).mono; omega
  · apply (B.mul h.2 k.2).mono; omega
theorem BR.mul {n m : Nat} {p q : Rat} (h : BR n p) (k : BR m q) : BR (n + m) (p * q) := by
  rw [← mul_divI]
  exact BR.divInt (Int.mul_ne_zero (den_ne p) (den_ne q)) (B.mul h.1 k.1) (B.mul h.2 k.2)
theorem BR.mono {n m : Nat} {q : Rat} (h : BR n q) (l : n ≤ m) : BR m q := ⟨h.1.mono l, h.2.mono l⟩
theorem fr_inj {p q : Rat} : (p.num = q.num ∧ (p.den : Int) = q.den) ↔ p = q :=
  ⟨fun h => Rat.ext h.1 (by omega), fun h => by subst h; exact ⟨rfl, rfl⟩⟩
theorem shp_fr {n : Nat} {q : Rat} : shp (n + 1) (fr q) = true := by
  unfold fr
  rw [shp_t, shps_c, shps_c, shps_n, shp_i, shp_i]
  rfl
theorem eqs_fr {p q : Rat} : eqs [.int p.num, .int (p.den : Int)] [.int q.num, .int (q.den : Int)] = decide (p = q) := by
  rw [eqs_cc, eqs_cc, eqs_nn, eq1_ii, eq1_ii, Bool.and_true, ← Bool.decide_and]
  exact decide_eq_decide.mpr fr_inj
theorem cop_eq_fr {p q : Rat} : COp.fn .eq (fr p) (fr q) = some (.bl (decide (p = q))) := by
  have h := shp_fr (n := 63) (q := p)
  have h' := shp_fr (n := 63) (q := q)
  unfold fr at *
  rw [cop_eq_tt h h', eqs_fr]
theorem cop_ne_fr {p q : Rat} : COp.fn .ne (fr p) (fr q) = some (.bl (!decide (p = q))) := by
  have h := shp_fr (n := 63) (q := p)
  have h' := shp_fr (n := 63) (q := q)
  unfold fr at *
  rw [cop_ne_tt h h', eqs_fr]
theorem fr_0 : (.tup [.int 0, .int 1] : D) = fr 0 := rfl
/-! ### numbers divided by all that divides them -/
def gl : List Int → Nat
  | [] => 0
  | x :: xs => Int.gcd x (gl xs)
def lz : List Int → Int
  | [] => 0
  | x :: xs => if lz xs = 0 then x else lz xs
def byL (xs : List Int) : Int := if lz xs < 0 then -(gl xs : Int) else gl xs
def nrm (xs : List Int) : List Int := xs.map fun x => x.fdiv (byL xs)
def sc (k : Int) (xs : List Int) : List Int := xs.map fun x => k * x
theorem gl_foldl : ∀ (xs : List Int) (g : Nat), xs.foldl (fun (g : Nat) x => Int.gcd g x) g = Nat.gcd g (gl xs)
  | [], g => by simp [gl]
  | x :: xs, g => by
    rw [List.foldl_cons, gl_foldl xs]
    show Nat.gcd (Nat.gcd g x.natAbs) (gl xs) = Nat.gcd g (Nat.gcd x.natAbs (gl xs))
    rw [Nat.gcd_assoc]
theorem gl_foldl0 (xs : List Int) : xs.foldl (fun (g : Nat) x => Int.gcd g x) 0 = gl xs := by rw [gl_foldl]; simp
theorem gl_dvd : ∀ {xs : List Int} {x : Int}, x ∈ xs → (gl xs : Int) ∣ x
  | y :: xs, x, h => by
    rcases List.mem_cons.mp h with e | e
    · subst e; exact Int.gcd_dvd_left _ _
    · exact Int.dvd_trans (Int.gcd_dvd_right _ _) (gl_dvd e)
theorem lz_mul {k : Int} (hk : k ≠ 0) : ∀ (xs : List Int), lz (sc k xs) = k * lz xs
  | [] => by simp [lz, sc]
  | x :: xs => by
    have := lz_mul hk xs
    unfold sc at *
    rw [List.map_cons, lz, lz, this]
    by_cases h : lz xs = 0
    · rw [if_pos h, if_pos (by rw [h, Int.mul_zero])]
    · rw [if_neg h, if_neg (Int.mul_ne_zero hk h)]
theorem gl_mul (k : Int) : ∀ (xs : List Int), gl (sc k xs) = k.natAbs * gl xs
  | [] => by simp [gl, sc]
  | x :: xs => by
    have := gl_mul k xs
    unfold sc at *
    rw [List.map_cons, gl, gl, this]
    show Nat.gcd (k * x).natAbs (k.natAbs * gl xs) = k.natAbs * Nat.gcd x.natAbs (gl xs)
    rw [Int.natAbs_mul, Nat.gcd_mul_left]
theorem lz_mem : ∀ {xs : List Int}, lz xs ≠ 0 → lz xs ∈ xs
  | [], h => absurd rfl h
  | x :: xs, h => by
    rw [lz] at *
    split
    · exact List.mem_cons_self
    · next h' => exact List.mem_cons_of_mem _ (lz_mem h')
theorem lz_zero : ∀ {xs : List Int}, lz xs = 0 → ∀ x ∈ xs, x = 0
  | y :: xs, h, x, hx => by
    rw [lz] at h
    split at h
    · next h' =>
      rcases List.mem_cons.mp hx with e | e
      · rw [e, h]
      · exact lz_zero h' x e
    · next h' => exact absurd h h'
theorem lz_ne {xs : List Int} {x : Int} (h : x ∈ xs) (hx : x ≠ 0) : lz xs ≠ 0 := fun e => hx (lz_zero e x h)
theorem gl_pos {xs : List Int} (h : lz xs ≠ 0) : 0 < gl xs := by
  rcases Nat.eq_zero_or_pos (gl xs) with e | e
  · have d := gl_dvd (lz_mem h)
    rw [e] at d
    exact absurd (Int.zero_dvd.mp d) h
  · exact e
theorem byL_ne {xs : List Int} (h : lz xs ≠ 0) : byL xs ≠ 0 := by
  have := gl_pos h
  unfold byL
  split <;> omega
theorem byL_dvd {xs : List Int} {x : Int} (h : x ∈ xs) : byL xs ∣ x := by
  have := gl_dvd h
  unfold byL
  split
  · exact Int.neg_dvd.mpr this
  · exact this
theorem byL_mul {k : Int} {xs : List Int} (hk : k ≠ 0) (h : lz xs ≠ 0) : byL (sc k xs) = k * byL xs := by
  unfold byL
  rw [lz_mul hk, gl_mul, Int.natCast_mul]
  rcases Int.lt_or_lt_of_ne hk with c | c <;> rcases Int.lt_or_lt_of_ne h with d | d
  · rw [if_neg (by have := Int.mul_pos_of_neg_of_neg c d; omega), if_pos d, show (k.natAbs : Int) = -k by omega]; grind
  · rw [if_pos (Int.mul_neg_of_neg_of_pos c d), if_neg (by omega), show (k.natAbs : Int) = -k by omega]; grind
  · rw [if_pos (Int.mul_neg_of_pos_of_neg c d), if_pos d, show (k.natAbs : Int) = k by omega]; grind
  · rw [if_neg (by have := Int.mul_pos c d; omega), if_neg (by omega), show (k.natAbs : Int) = k by omega]
theorem nrm_mul {k : Int} {xs : List Int} (hk : k ≠ 0) (h : lz xs ≠ 0) : nrm (sc k xs) = nrm xs := by
  unfold nrm
  rw [byL_mul hk h]
  unfold sc
  rw [List.map_map]
  refine List.map_congr_left fun x hx => ?_
  obtain ⟨t, e⟩ := byL_dvd hx
  have b := byL_ne h
  show (k * x).fdiv (k * byL xs) = x.fdiv (byL xs)
  generalize byL xs = c at *
  subst e
  rw [Int.mul_fdiv_cancel_left _ b, ← Int.mul_assoc, Int.mul_fdiv_cancel_left _ (Int.mul_ne_zero hk b)]
theorem nrm_eq {xs : List Int} (h : lz xs ≠ 0) : sc (byL xs) (nrm xs) = xs := by
  unfold sc nrm
  rw [List.map_map]
  conv => rhs; rw [← List.map_id xs]
  refine List.map_congr_left fun x hx => ?_
  obtain ⟨t, e⟩ := byL_dvd hx
  have b := byL_ne h
  show byL xs * x.fdiv (byL xs) = x
  generalize byL xs = c at *
  subst e
  rw [Int.mul_fdiv_cancel_left _ b]
theorem lz_nrm {xs : List Int} (h : lz xs ≠ 0) : 0 < lz (nrm xs) := by
  have e : lz xs = byL xs * lz (nrm xs) := by rw [← lz_mul (byL_ne h), nrm_eq h]
  have b := byL_ne h
  have g := gl_pos h
  rcases Int.lt_trichotomy (lz (nrm xs)) 0 with c | c | c
  · exfalso
    rcases Int.lt_or_lt_of_ne b with d | d
    · have := Int.mul_pos_of_neg_of_neg d c
      unfold byL at d this e
      split at d <;> omega
    · have := Int.mul_neg_of_pos_of_neg d c
      unfold byL at d this e
      split at d <;> omega
  · rw [c] at e; omega
  · exact c
theorem nrm_nrm {xs : List Int} (h : lz xs ≠ 0) : nrm (nrm xs) = nrm xs := by
  have h' : lz (nrm xs) ≠ 0 := by have := lz_nrm h; omega
  have := nrm_mul (byL_ne h) h'
  rw [nrm_eq h] at this
  exact this.symm
theorem byL_nrm {xs : List Int} (h : lz xs ≠ 0) : byL (nrm xs) = 1 := by
  have h' : lz (nrm xs) ≠ 0 := by have := lz_nrm h; omega
  have e := byL_mul (byL_ne h) h'
  rw [nrm_eq h] at e
  have b := byL_ne h
  have : byL xs * 1 = byL xs * byL (nrm xs) := by omega
  exact (Int.eq_of_mul_eq_mul_left b this).symm
theorem sc_sc (k l : Int) (xs : List Int) : sc k (sc l xs) = sc (k * l) xs := by
  unfold sc
  rw [List.map_map]
  refine List.map_congr_left fun x _ => ?_
  show k * (l * x) = k * l * x
  rw [Int.mul_assoc]
theorem nrm_par {k l : Int} {xs ys : List Int} (hk : k ≠ 0) (hl : l ≠ 0) (hx : lz xs ≠ 0) (hy : lz ys ≠ 0) (e : sc k xs = sc l ys) : nrm xs = nrm ys := by
  rw [← nrm_mul hk hx, e, nrm_mul hl hy]
theorem nrm_len (xs : List Int) : (nrm xs).length = xs.length := by simp [nrm]
theorem B_byL {n : Nat} {xs : List Int} (h : lz xs ≠ 0) (b : ∀ x ∈ xs, B n x) : B n (byL xs) :=
  B.dvd (byL_dvd (lz_mem h)) h (b _ (lz_mem h))
theorem B_gl {n : Nat} {xs : List Int} (h : lz xs ≠ 0) (b : ∀ x ∈ xs, B n x) : B n (gl xs : Int) :=
  B.dvd (gl_dvd (lz_mem h)) h (b _ (lz_mem h))
theorem B_nrm {n : Nat} {xs : List Int} (b : ∀ x ∈ xs, B n x) : ∀ y ∈ nrm xs, B n y := fun y hy => by
  unfold nrm at hy
  obtain ⟨x, hx, rfl⟩ := List.mem_map.mp hy
  exact (b x hx).fdiv _
theorem lz_last : ∀ (xs : List Int), (xs.filter fun x => !decide (x = 0)).getLast? = if lz xs = 0 then none else some (lz xs)
  | [] => rfl
  | x :: xs => by
    have ih := lz_last xs
    rw [lz]
    by_cases h : x = 0
    · rw [List.filter_cons_of_neg (by simp [h]), ih]
      by_cases h' : lz xs = 0
      · simp [h', h]
      · simp [h']
    · rw [List.filter_cons_of_pos (by simp [h]), List.getLast?_cons, ih]
      by_cases h' : lz xs = 0
      · simp [h', h]
      · simp [h']
theorem lz_at {xs : List Int} (h : lz xs ≠ 0) : atI ((xs.filter fun x => !decide (x = 0)).map D.int) (-1) = some (.int (lz xs)) := by
  have := lz_last xs
  rw [if_neg h, List.getLast?_eq_getElem?] at this
  rw [atI_m1, List.getElem?_map, List.length_map, this]
  rfl
/-! ### the first one above 0 -/
def fz : List Int → Int
  | [] => 0
  | x :: xs => if x = 0 then fz xs else x
def byF (xs : List Int) : Int := if fz xs < 0 then -(gl xs : Int) else gl xs
def nrmF (xs : List Int) : List Int := xs.map fun x => x.fdiv (byF xs)
theorem fz_mem : ∀ {xs : List Int}, fz xs ≠ 0 → fz xs ∈ xs
  | [], h => absurd rfl h
  | x :: xs, h => by
    rw [fz] at *
    split
    · next h' => rw [if_pos h'] at h; exact List.mem_cons_of_mem _ (fz_mem h)
    · exact List.mem_cons_self
theorem fz_zero : ∀ {xs : List Int}, fz xs = 0 → ∀ x ∈ xs, x = 0
  | y :: xs, h, x, hx => by
    rw [fz] at h
    split at h
    · next h' =>
      rcases List.mem_cons.mp hx with e | e
      · rw [e, h']
      · exact fz_zero h x e
    · next h' => exact absurd h h'
theorem fz_ne {xs : List Int} {x : Int} (h : x ∈ xs) (hx : x ≠ 0) : fz xs ≠ 0 := fun e => hx (fz_zero e x h)
theorem fz_lz {xs : List Int} (h : fz xs ≠ 0) : lz xs ≠ 0 := lz_ne (fz_mem h) h
theorem fz_mul {k : Int} (hk : k ≠ 0) : ∀ (xs : List Int), fz (sc k xs) = k * fz xs
  | [] => by simp [fz, sc]
  | x :: xs => by
    have := fz_mul hk xs
    unfold sc at *
    rw [List.map_cons, fz, fz, this]
    by_cases h : x = 0
    · rw [if_pos h, if_pos (by rw [h, Int.mul_zero])]
    · rw [if_neg h, if_neg (Int.mul_ne_zero hk h)]
theorem byF_ne {xs : List Int} (h : fz xs ≠ 0) : byF xs ≠ 0 := by
  have := gl_pos (fz_lz h)
  unfold byF
  split <;> omega
theorem byF_dvd {xs : List Int} {x : Int} (h : x ∈ xs) : byF xs ∣ x := by
  have := gl_dvd h
  unfold byF
  split
  · exact Int.neg_dvd.mpr this
  · exact this
theorem byF_mul {k : Int} {xs : List Int} (hk : k ≠ 0) (h : fz xs ≠ 0) : byF (sc k xs) = k * byF xs := by
  unfold byF
  rw [fz_mul hk, gl_mul, Int.natCast_mul]
  rcases Int.lt_or_lt_of_ne hk with c | c <;> rcases Int.lt_or_lt_of_ne h with d | d
  · rw [if_neg (by have := Int.mul_pos_of_neg_of_neg c d; omega), if_pos d, show (k.natAbs : Int) = -k by omega]; grind
  · rw [if_pos (Int.mul_neg_of_neg_of_pos c d), if_neg (by omega), show (k.natAbs : Int) = -k by omega]; grind
  · rw [if_pos (Int.mul_neg_of_pos_of_neg c d), if_pos d, show (k.natAbs : Int) = k by omega]; grind
  · rw [if_neg (by have := Int.mul_pos c d; omega), if_neg (by omega), show (k.natAbs : Int) = k by omega]
theorem nrmF_mul {k : Int} {xs : List Int} (hk : k ≠ 0) (h : fz xs ≠ 0) : nrmF (sc k xs) = nrmF xs := by
  unfold nrmF
  rw [byF_mul hk h]
  unfold sc
  rw [List.map_map]
  refine List.map_congr_left fun x hx => ?_
  obtain ⟨t, e⟩ := byF_dvd hx
  have b := byF_ne h
  show (k * x).fdiv (k * byF xs) = x.fdiv (byF xs)
  generalize byF xs = c at *
  subst e
  rw [Int.mul_fdiv_cancel_left _ b, ← Int.mul_assoc, Int.mul_fdiv_cancel_left _ (Int.mul_ne_zero hk b)]
theorem nrmF_eq {xs : List Int} (h : fz xs ≠ 0) : sc (byF xs) (nrmF xs) = xs := by
  unfold sc nrmF
  rw [List.map_map]
  conv => rhs; rw [← List.map_id xs]
  refine List.map_congr_left fun x hx => ?_
  obtain ⟨t, e⟩ := byF_dvd hx
  have b := byF_ne h
  show byF xs * x.fdiv (byF xs) = x
  generalize byF xs = c at *
  subst e
  rw [Int.mul_fdiv_cancel_left _ b]
theorem B_byF {n : Nat} {xs : List Int} (h : fz xs ≠ 0) (b : ∀ x ∈ xs, B n x) : B n (byF xs) := B.dvd (byF_dvd (fz_mem h)) h (b _ (fz_mem h))
theorem B_nrmF {n : Nat} {xs : List Int} (b : ∀ x ∈ xs, B n x) : ∀ y ∈ nrmF xs, B n y := fun y hy => by
  unfold nrmF at hy
  obtain ⟨x, hx, rfl⟩ := List.mem_map.mp hy
  exact (b x hx).fdiv _
theorem fz_head : ∀ (xs : List Int), (xs.filter fun x => !decide (x = 0)).head? = if fz xs = 0 then none else some (fz xs)
  | [] => rfl
  | x :: xs => by
    rw [fz]
    by_cases h : x = 0
    · rw [List.filter_cons_of_neg (by simp [h]), fz_head xs, if_pos h]
    · rw [List.filter_cons_of_pos (by simp [h]), if_neg h, if_neg h]
      rfl
theorem fz_at {xs : List Int} (h : fz xs ≠ 0) : atI ((xs.filter fun x => !decide (x = 0)).map D.int) 0 = some (.int (fz xs)) := by
  have := fz_head xs
  rw [if_neg h] at this
  cases hf : xs.filter fun x => !decide (x = 0) with
  | nil => rw [hf] at this; cases this
  | cons y ys =>
    rw [hf] at this
    rw [List.map_cons, atI_0]
    exact congrArg (Option.map D.int) this
theorem cop_eq_ss {a b : Str} (ha : PyData.strOk a = true) (hb : PyData.strOk b = true) : COp.fn .eq (.str a) (.str b) = some (.bl (a == b)) := by
  show (eqD _ _).map D.bl = _
  rw [eqD_shp (by rw [shp_s]; exact ha) (by rw [shp_s]; exact hb), eq1_ss]
  rfl
/-! ### three -/
theorem lz3 {x y z : Int} : lz [x, y, z] ≠ 0 ↔ ¬(x = 0 ∧ y = 0 ∧ z = 0) := by
  constructor
  · rintro h ⟨rfl, rfl, rfl⟩; exact h rfl
  · intro h e
    exact h ⟨lz_zero e x (by simp), lz_zero e y (by simp), lz_zero e z (by simp)⟩
theorem shps_ints {n : Nat} : ∀ {xs : List Int}, shps n (xs.map D.int) = true
  | [] => shps_n
  | x :: xs => by rw [List.map_cons, shps_c, shp_i, shps_ints]; rfl
theorem isin_ints {i : Int} {xs : List Int} : COp.fn .isin (.int i) (.lst (xs.map D.int)) = some (.bl (decide (i ∈ xs))) := by
  have s1 : SeqAt.shaped (toPy (.int i)) = true := by
    obtain ⟨a, b⟩ := shp_ok (.int i) 64 shp_i
    unfold SeqAt.shaped
    rw [a, decide_eq_true b]
    rfl
  have s2 : SeqAt.shaped (.list (toPys (xs.map D.int))) = true := by
    obtain ⟨a, b⟩ := shp_ok (.lst (xs.map D.int)) 64 (by rw [shp_l]; exact shps_ints)
    unfold toPy at a b
    unfold SeqAt.shaped
    rw [a, decide_eq_true b]
    rfl
  have s3 : ∀ ys : List Int, ((toPys (ys.map D.int)).any fun z => PyData.eqv z (toPy (.int i))) = decide (i ∈ ys) := by
    intro ys
    induction ys with
    | nil => unfold toPys List.map; simp
    | cons y ys ih =>
      rw [List.map_cons, toPys, List.any_cons, ih]
      have : PyData.eqv (toPy (.int y)) (toPy (.int i)) = decide (y = i) := eq1_ii
      rw [this, ← Bool.decide_or]
      refine decide_eq_decide.mpr ?_
      rw [List.mem_cons]
      exact ⟨fun h => h.elim (fun e => .inl e.symm) .inr, fun h => h.elim (fun e => .inl e.symm) .inr⟩
  show (if SeqAt.shaped (toPy (.int i)) && SeqAt.shaped (.list (toPys (xs.map D.int))) then some ((toPys (xs.map D.int)).any fun z => PyData.eqv z (toPy (.int i))) else none).map D.bl = _
  rw [s1, s2, s3]
  rfl
/-! ### triples -/
structure V3 where
  x : Int
  y : Int
  z : Int
deriving DecidableEq
namespace V3
@[ext] theorem ext' {a b : V3} (h1 : a.x = b.x) (h2 : a.y = b.y) (h3 : a.z = b.z) : a = b := by
  cases a; cases b; cases h1; cases h2; cases h3; rfl
def tr (a : V3) : D := .tup [.int a.x, .int a.y, .int a.z]
def cr (a b : V3) : V3 := ⟨a.y * b.z - a.z * b.y, a.z * b.x - a.x * b.z, a.x * b.y - a.y * b.x⟩
def dt (a b : V3) : Int := a.x * b.x + a.y * b.y + a.z * b.z
def sm (k : Int) (a : V3) : V3 := ⟨k * a.x, k * a.y, k * a.z⟩
def ad (a b : V3) : V3 := ⟨a.x + b.x, a.y + b.y, a.z + b.z⟩
def li (a : V3) : List Int := [a.x, a.y, a.z]
def o3 : V3 := ⟨0, 0, 0⟩
def nm (a : V3) : V3 := ⟨a.x.fdiv (byL a.li), a.y.fdiv (byL a.li), a.z.fdiv (byL a.li)⟩
def BV (n : Nat) (a : V3) : Prop := B n a.x ∧ B n a.y ∧ B n a.z
theorem nm_li (a : V3) : (nm a).li = nrm a.li := rfl
theorem sm_li (k : Int) (a : V3) : (sm k a).li = sc k a.li := rfl
theorem li_inj {a b : V3} (h : a.li = b.li) : a = b := by
  unfold li at h
  simp only [List.cons.injEq, and_true] at h
  exact ext' h.1 h.2.1 h.2.2
theorem ne_iff {a : V3} : a ≠ o3 ↔ ¬(a.x = 0 ∧ a.y = 0 ∧ a.z = 0) := by
  constructor
  · intro h e; exact h (ext' e.1 e.2.1 e.2.2)
  · rintro h rfl; exact h ⟨rfl, rfl, rfl⟩
theorem lz_ne {a : V3} (h : a ≠ o3) : lz a.li ≠ 0 := lz3.mpr (ne_iff.mp h)
theorem nm_ex {a : V3} (h : a ≠ o3) : ∃ g : Int, g ≠ 0 ∧ a = sm g (nm a) :=
  ⟨byL a.li, byL_ne (lz_ne h), li_inj (by rw [sm_li, nm_li, nrm_eq (lz_ne h)])⟩
theorem nm_ne {a : V3} (h : a ≠ o3) : nm a ≠ o3 := fun e => by
  obtain ⟨g, _, q⟩ := nm_ex h
  rw [e] at q
  exact h (q.trans (ext' (Int.mul_zero _) (Int.mul_zero _) (Int.mul_zero _)))
theorem nm_sm {k : Int} {a : V3} (hk : k ≠ 0) (h : a ≠ o3) : nm (sm k a) = nm a := li_inj (by rw [nm_li, sm_li, nrm_mul hk (lz_ne h), nm_li])
theorem nm_nm {a : V3} (h : a ≠ o3) : nm (nm a) = nm a := li_inj (by rw [nm_li, nm_li, nrm_nrm (lz_ne h)])
theorem sm_ne {k : Int} {a : V3} (hk : k ≠ 0) (h : a ≠ o3) : sm k a ≠ o3 := by
  rw [ne_iff] at *
  simp only [sm, Int.mul_eq_zero, hk, false_or]
  exact h
theorem par {a b : V3} (ha : a ≠ o3) (hb : b ≠ o3) (h : cr a b = o3) : nm a = nm b := by
  have h1 : a.y * b.z - a.z * b.y = 0 := congrArg V3.x h
  have h2 : a.z * b.x - a.x * b.z = 0 := congrArg V3.y h
  have h3 : a.x * b.y - a.y * b.x = 0 := congrArg V3.z h
  have key : ∀ k l : Int, l ≠ 0 → sm k a = sm l b → nm a = nm b := fun k l hl e => by
    by_cases hk : k = 0
    · exfalso
      subst hk
      have : sm l b = o3 := e.symm.trans (ext' (Int.zero_mul _) (Int.zero_mul _) (Int.zero_mul _))
      exact sm_ne hl hb this
    · rw [← nm_sm hk ha, e, nm_sm hl hb]
  by_cases hx : a.x = 0
  · by_cases hy : a.y = 0
    · have hz : a.z ≠ 0 := fun e => ne_iff.mp ha ⟨hx, hy, e⟩
      exact key b.z a.z hz (ext' (by show b.z * a.x = a.z * b.x; grind) (by show b.z * a.y = a.z * b.y; grind) (by show b.z * a.z = a.z * b.z; grind))
    · exact key b.y a.y hy (ext' (by show b.y * a.x = a.y * b.x; grind) (by show b.y * a.y = a.y * b.y; grind) (by show b.y * a.z = a.y * b.z; grind))
  · exact key b.x a.x hx (ext' (by show b.x * a.x = a.x * b.x; grind) (by show b.x * a.y = a.x * b.y; grind) (by show b.x * a.z = a.x * b.z; grind))
theorem cr_ne {a b : V3} (ha : a ≠ o3) (hb : b ≠ o3) (na : nm a = a) (nb : nm b = b) (h : a ≠ b) : cr a b ≠ o3 := fun e => h (by rw [← na, ← nb, par ha hb e])
theorem dt_comm (a b : V3) : dt a b = dt b a := by unfold dt; grind
theorem dt_sm (k : Int) (a b : V3) : dt a (sm k b) = k * dt a b := by unfold dt sm; grind
theorem sm_dt (k : Int) (a b : V3) : dt (sm k a) b = k * dt a b := by unfold dt sm; grind
theorem cr_sm (k : Int) (a b : V3) : cr a (sm k b) = sm k (cr a b) := by unfold cr sm; ext <;> dsimp only <;> grind
theorem sm_cr (k : Int) (a b : V3) : cr (sm k a) b = sm k (cr a b) := by unfold cr sm; ext <;> dsimp only <;> grind
theorem sm_sm (k l : Int) (a : V3) : sm k (sm l a) = sm (k * l) a := by unfold sm; ext <;> dsimp only <;> grind
theorem dt_nm {a b : V3} (h : b ≠ o3) : dt a (nm b) = 0 ↔ dt a b = 0 := by
  obtain ⟨g, hg, e⟩ := nm_ex h
  conv => rhs; rw [e, dt_sm]
  rw [Int.mul_eq_zero]
  simp [hg]
theorem nm_dt {a b : V3} (h : b ≠ o3) : dt (nm b) a = 0 ↔ dt b a = 0 := by rw [dt_comm, dt_nm h, dt_comm]
theorem dt_cr1 (a b : V3) : dt (cr a b) a = 0 := by unfold dt cr; grind
theorem dt_cr2 (a b : V3) : dt (cr a b) b = 0 := by unfold dt cr; grind
theorem dt_cyc (a b c : V3) : dt (cr b c) a = dt (cr a b) c := by unfold dt cr; grind
theorem dt_swap (a b c : V3) : dt (cr b a) c = -dt (cr a b) c := by unfold dt cr; grind
theorem cr_swap (a b : V3) : cr b a = sm (-1) (cr a b) := by unfold cr sm; ext <;> dsimp only <;> grind
theorem cr_self (a : V3) : cr a a = o3 := by unfold cr o3; ext <;> dsimp only <;> grind
theorem dt_o3 (a : V3) : dt a o3 = 0 := by unfold dt o3; simp
theorem o3_dt (a : V3) : dt o3 a = 0 := by unfold dt o3; simp
theorem o3_cr (a : V3) : cr o3 a = o3 := by unfold cr o3; simp
theorem cr_o3 (a : V3) : cr a o3 = o3 := by unfold cr o3; simp
theorem cr_dt0 {a b c : V3} (h : dt (cr a b) c ≠ 0) : cr a b ≠ o3 := fun e => h (by rw [e, o3_dt])
theorem ne_of_cr {a b : V3} (h : cr a b ≠ o3) : a ≠ b := fun e => h (by rw [e, cr_self])
/-- the join of what is divided -/
theorem nm_cr {a b : V3} (ha : a ≠ o3) (hb : b ≠ o3) (h : cr a b ≠ o3) : cr (nm a) (nm b) ≠ o3 ∧ nm (cr (nm a) (nm b)) = nm (cr a b) := by
  obtain ⟨g, g0, e1⟩ := nm_ex ha
  obtain ⟨k, k0, e2⟩ := nm_ex hb
  have e : cr a b = sm (g * k) (cr (nm a) (nm b)) := by
    conv => lhs; rw [e1, e2, sm_cr, cr_sm, sm_sm]
  have n : cr (nm a) (nm b) ≠ o3 := fun z => h (by rw [e, z]; unfold sm o3; simp)
  refine ⟨n, ?_⟩
  rw [e, nm_sm (Int.mul_ne_zero g0 k0) n]
theorem cr_cr (a b c : V3) : cr (cr a b) (cr a c) = sm (dt (cr a b) c) a := by unfold dt cr sm; ext <;> dsimp only <;> grind
theorem BV.mono {n m : Nat} {a : V3} (h : BV n a) (l : n ≤ m) : BV m a := ⟨h.1.mono l, h.2.1.mono l, h.2.2.mono l⟩
theorem BV.nm {n : Nat} {a : V3} (h : BV n a) : BV n (nm a) := ⟨h.1.fdiv _, h.2.1.fdiv _, h.2.2.fdiv _⟩
theorem BV.li {n : Nat} {a : V3} (h : BV n a) : ∀ x ∈ a.li, B n x := fun x hx => by
  unfold V3.li at hx
  simp only [List.mem_cons, List.not_mem_nil, or_false] at hx
  rcases hx with rfl | rfl | rfl
  · exact h.1
  · exact h.2.1
  · exact h.2.2
theorem BV.cr {n m : Nat} {a b : V3} (h : BV n a) (k : BV m b) : BV (n + m + 1) (cr a b) := by
  refine ⟨?_, ?_, ?_⟩
  · apply B.mono (B.sub (B.mul h.2.1 k.2.2) (B.mul h.2.2 k.2.1)); omega
  · apply B.mono (B.sub (B.mul h.2.2 k.1) (B.mul h.1 k.2.2)); omega
  · apply B.mono (B.sub (B.mul h.1 k.2.1) (B.mul h.2.1 k.1)); omega
theorem BV.dt {n m : Nat} {a b : V3} (h : BV n a) (k : BV m b) : B (n + m + 2) (dt a b) := by
  apply B.mono (B.add (B.add (B.mul h.1 k.1) (B.mul h.2.1 k.2.1)) (B.mul h.2.2 k.2.2)); omega
theorem tr_mk (x y z : Int) : tr ⟨x, y, z⟩ = .tup [.int x, .int y, .int z] := rfl
theorem idx0 (a : V3) : idxD (tr a) (.int 0) = some (.int a.x) := rfl
theorem idx1 (a : V3) : idxD (tr a) (.int 1) = some (.int a.y) := rfl
theorem idx2 (a : V3) : idxD (tr a) (.int 2) = some (.int a.z) := rfl
theorem shp_tr {n : Nat} {q : V3} : shp (n + 1) (tr q) = true := by
  unfold tr
  rw [shp_t, shps_c, shps_c, shps_c, shps_n, shp_i, shp_i, shp_i]
  rfl
theorem eqs_tr {p q : V3} : eqs [.int p.x, .int p.y, .int p.z] [.int q.x, .int q.y, .int q.z] = decide (p = q) := by
  rw [eqs_cc, eqs_cc, eqs_cc, eqs_nn, eq1_ii, eq1_ii, eq1_ii, Bool.and_true, ← Bool.decide_and, ← Bool.decide_and]
  exact decide_eq_decide.mpr ⟨fun h => ext' h.1 h.2.1 h.2.2, fun h => by subst h; exact ⟨rfl, rfl, rfl⟩⟩
theorem cop_eq_tr {p q : V3} : COp.fn .eq (tr p) (tr q) = some (.bl (decide (p = q))) := by
  have h := shp_tr (n := 63) (q := p)
  have h' := shp_tr (n := 63) (q := q)
  unfold tr at *
  rw [cop_eq_tt h h', eqs_tr]
theorem cop_ne_tr {p q : V3} : COp.fn .ne (tr p) (tr q) = some (.bl (!decide (p = q))) := by
  have h := shp_tr (n := 63) (q := p)
  have h' := shp_tr (n := 63) (q := q)
  unfold tr at *
  rw [cop_ne_tt h h', eqs_tr]
end V3
/-! ### loops and comprehensions over numbers -/
theorem forF_fold {σ : Type} {ws : List Nat} {g : D → En → Option En} {b : SDen} (Φ : σ → En) (st : σ → Int → σ) : ∀ (xs : List Int) (s : σ), (∀ s, ∀ x ∈ xs, ∃ δ1, g (.int x) (Φ s) = some δ1 ∧ finK ws (b δ1) = some (Φ (st s x))) → forF ws g b (xs.map D.int) (Φ s) = .nx (Φ (xs.foldl st s))
  | [], _, _ => rfl
  | x :: xs, s, h => by
    obtain ⟨δ1, e1, e2⟩ := h s x List.mem_cons_self
    have ih := forF_fold (ws := ws) (g := g) (b := b) Φ st xs (st s x) fun s x hx => h s x (List.mem_cons_of_mem _ hx)
    rw [List.map_cons, forF_c, e1, fK_s, List.foldl_cons]
    cases eb : b δ1 with
    | nx δ2 => rw [eb] at e2; rw [loopK_nx, Option.some.inj e2]; exact ih
    | ct δ2 => rw [eb] at e2; rw [loopK_ct, Option.some.inj e2]; exact ih
    | _ => rw [eb] at e2; cases e2
theorem compF_mapI {δ : En} {g : D → En → Option En} {f : Den} {vs : List Nat} {h : Int → D} : ∀ {xs : List Int}, (∀ x ∈ xs, ∃ δ1, g (.int x) δ = some δ1 ∧ ∃ δ3, f δ1 = .ok (h x) δ3 ∧ wipeD δ3 vs = δ) → compF g none f vs (xs.map D.int) δ = some (xs.map h, δ)
  | [], _ => rfl
  | x :: xs, H => by
    obtain ⟨δ1, e1, δ3, e2, e3⟩ := H x List.mem_cons_self
    rw [List.map_cons, compF_0, e1, cS_s, e2, cE_ok, e3, compF_mapI fun d hd => H d (List.mem_cons_of_mem _ hd)]
    rfl
theorem compF_filI {δ : En} {g : D → En → Option En} {c f : Den} {vs : List Nat} {p : Int → Bool} {h : Int → D} : ∀ {xs : List Int}, (∀ x ∈ xs, ∃ δ1, g (.int x) δ = some δ1 ∧ ∃ δ2, c δ1 = .ok (.bl (p x)) δ2 ∧ wipeD δ2 vs = δ ∧ ∃ δ3, f δ2 = .ok (h x) δ3 ∧ wipeD δ3 vs = δ) → compF g (some c) f vs (xs.map D.int) δ = some ((xs.filter p).map h, δ)
  | [], _ => rfl
  | x :: xs, H => by
    obtain ⟨δ1, e1, δ2, e2, h2, δ3, e3, e4⟩ := H x List.mem_cons_self
    have r := compF_filI (xs := xs) fun d hd => H d (List.mem_cons_of_mem _ hd)
    rw [List.map_cons, compF_1, e1, cT_s, e2, cB_ok]
    cases hp : p x with
    | true =>
      rw [if_pos rfl, e3, cE_ok, e4, r, List.filter_cons_of_pos hp]
      rfl
    | false => rw [if_neg (by simp), h2, r, List.filter_cons_of_neg (by simp [hp])]
end Z

set_option maxHeartbeats 2000000
namespace My
open PySem PySem.Spec PyProof.Rows L2 Z
local macro_rules
  | `(tactic| simp_arith [$xs,*]) => `(tactic| simp -implicitDefEqProofs (disch := (first | assumption | decide | (refine divOk_B ?_ ?_ <;> first | assumption | omega) | (simp only [shps_n, shps_c, shp_i, shp_b, shp_non, shp_t, shp_l, Bool.and_self, Bool.and_true]; done) | (refine mulOk_B (n := 20000) (m := 20000) ?_ ?_ (by decide) <;> (first | assumption | (apply B.mono; (repeat' (first | assumption | apply B.mul | apply B.add | apply B.sub | apply B.neg | (apply B.emod; decide) | apply B.ediv | exact B.lit _)); decide))) | (simp; done) | omega)) [bindE_ok, bindE_rz, bindA_ok, bindA_rz, consA_ok, consA_rz, bindAA_ok, bindAA_rz, bindT_ok, bindT_rz, bindS_nx, bindS_rt, bindS_bk, bindS_ct, bindS_rz, bindES_ok, bindES_rz, bindTS_ok, bindTS_rz, bindAF_ok, bindEF_ok, bindPF_ok, bindP_ok, ofO_s, ofD_ok, ofD_rz, dVar_, dVarK_va, dVarK_ow, ownD_l, dCst_, dBin_, kBin_, kBin2_, dUn_, kUn_, dArgs_n, dArgs_c, kArg_, kArg2_, dTup_, kTup_, fLst_, kLst_, dFr_, frK_ok, dBi_, kBi_, dCall_, kCall_, dAnd_, dOr_, kAnd_, kOr_, dAnds_1, dAnds_2, dOrs_1, dOrs_2, dIte_, kIte_, sSeq_, sNil_, sPass_, sBrk_, sCnt_, sRetN_, sRet_, kRet_, sExp_, kExp_, sIf_, kIf_, nxO_s, sAsg_, kAsg_, stD_, stK_no, stK_va, stK_ow, tgv, tgt, tgl, tgnt, tgnl, stNs_n, stNs_c, stT_t, stT_l, stDs_n, stDs_c, sPar_, kPar_ok, kPar_rz, sOwn_, kOwn_ok, kOwn_rz, ownK_no, ownK_va, ownK_ow, sAug_, augS_va, augK_i, loopK_nx, loopK_ct, loopK_bk, loopK_rt, loopK_rz, fgt_n, fgt_c, fgK_no, fgK_va, fgK_ow, iSeq_, seqK_l, seqK_t, iRng_, rngK_1, rngK_2, peek_, peekK_va, peekK_ow, dCmpB_, cmpBK_s, kCmpB_, dIxO_, kIxO_, ixKK_va, ixKK_ow, dLenO_, dInd_, indK_l, kInd_, lenK_s, sExt2_, extS_ow, extS_pi, extR_ok, extR_rz, extKK_ow, extKK_pi, sApp_, appS_ow, kApp_, appK_ow, sSub_, kSub_, kSub2_, dPart_n, dPart_s, partK_i, dCut_, kCut_, kCut2_, kCut3_, slD_l, fCut_, kFC_, kFC1_, kFC2_, kFC3_l, fStp_, kSt1_, kSt2_, kSt3_, kSt4_l, dStp_, kDs_, kDs2_, kDs3_, kDs4_, addD_i, subD_i, mulD_i, fdivD_p, modD_p, powD_i, negD_i, notD_b, cop_lt, cop_le, cop_gt, cop_ge, cop_eq_b, cop_ne_b, cop_eq_i, cop_ne_i, abs_i, max_i, min_i, len_l, len_t, tup_l, tup_t, int_i, idx_l, idx_t, atI_0, atI_1, atI_2, atI_3, atI_4, atI_5, atI_6, atI_7, atI_8, atI_9, atI_m1, endD_rt, endD_nx, endD_rz, cM_s, cE_ok, cS_s, cB_ok, cT_s, compF_n, compF_0, compF_1, kCompR_s, fComp_, fCompB_, cmpBKK_ow, cmpBKK_va, iOk_, ownB_ok, ownBK_no, kComp_if, wipeD_n, wipeD_c, okWipe_n, okWipe_c, okS_no, okS_va, restore_n, restore_c, rsK_s, lsO_s, iLs_, lsK_ok, zipL_l, zipL_t, zipL_m, zipD_c, zipD_n, enuL_l, enuL_t, enuD_c, enuD_n, ownAt_, ownAtK_ow, ownAtK_pi, setOwn_, soK_ow, soK_pi, dCallP_, fCallP_, cPK_s, cPKF_s, dCallB_, cBK_s, kCB_, callBK_s, flatR_ok, flatR_ow, flatR_rz, flat_n, flat_b, flat_i, flat_s, flat_t, flats_n, flats_c, kCP_, kCPF_, callPK_s, callPKF_s, ofP_d, ofP_o, ofPF_o, dArgsP_n, dArgsP_o, dArgsP_c, kArgN_, kArgP_, fCall_, kCallF_, ofDF_ow, ofD_ow, sRetF_, retFK_ok, sRetO_, retOK_ow, bindS_ro, loopK_ro, endD_ro, endP_rt, endP_nx, endP_ro, epK_pi, epR_pi, fAdd_, kFA_, kFA2_, catK_l, fList_, kLs_, listK_l, listK_t, addD_ll, addD_tt, peekK_pi, ixKK_pi, appS_pi, appK_pi, subO_pi_, subO_ow_, sjO_s, ixN_nn, isi_int_int, isi_int_bl, isi_int_non, isi_int_str, isi_int_tup, isi_int_lst, isi_int_dic, isi_bool_int, isi_bool_bl, isi_bool_non, isi_bool_str, isi_bool_tup, isi_bool_lst, isi_bool_dic, isi_tup_int, isi_tup_bl, isi_tup_non, isi_tup_str, isi_tup_tup, isi_tup_lst, isi_tup_dic, isi_lst_tup, isi_lst_lst, isi2_lt_l, isi2_lt_t, isi2_lt_i, isi2_lt_n, isi2_lt_b, isi2_lt_s, fRep_, repK_if, shps_n, shps_c, shp_i, shp_b, shp_non, shp_s, shp_t, shp_l, eq1_tt, eq1_ll, eq1_ii, eq1_bb, eq1_ss, eq1_nn, eq1_nt, eq1_tn, eqs_nn, eqs_nc, eqs_cn, eqs_cc, cop_eq_tt, cop_ne_tt, cop_eq_ll, cop_ne_ll, bKK_, bKR_s, is_bb, is_nn, is_in, is_tn, is_ln, is_bn, finK_nx, finK_ct, forF_n, forF_c, fK_s, sRaise_, sTryA_, tryK_nx, tryK_rt, tryK_ro, tryK_rz, sTryN_, tryNK_nx, tryNK_rt, tryNK_ro, tryNK_rz, pickH_n, pickH_c, noRz_nx, noRz_rt, setX_, setXK_va, setXK_no, catchS_nx, catchS_rt, clrK_va, dCallT_, hotL_x, kHot_, isED_x, subE_, dDic_, dCallN_, fCallN_, callNK_ok, callNK_rz, callNKF_ok, ofN_p, ofN_w, ofNF_w, dChn_, chnK0_, chnK_, chnK1_b, chnK2_, shlD_i, bitD_i, dstD_l, fDct_, fDsp_, dPrs_n, dPrs_c, dPr1_, dPr2_, sIns_, insS_l, kIns1_, kIns2_, sAugI_, kAugI_, augIK_l, augIA_s, kAug2_, augIK2_s, augD_i, sPar3_, nxO3_s, par3K_ok, dCmpR_, kCmpR_, bKQ_s, blK_b, $xs,*])
def cons : List (Str × D) := [("FAR", (.tup [(.int 1), (.int 0)]))]
def cv_FAR : D := (.tup [(.int 1), (.int 0)])
def bis : List Str := ["abs", "all", "bool", "enumerate", "int", "isinstance", "len", "list", "max", "min", "range", "sum", "tuple", "zip"]
abbrev rs : List Nat := [1, 2, 3, 4, 5, 6]
abbrev qs : List Nat := []
abbrev hfns : List Fd := []
abbrev fns_0 : List Fd := []
def df_is_whole : Df := ⟨"is_whole", ["thing"], 1,
  (.cons (.ret (.and (.cons (.isi .int (.var 0)) (.cons (.not (.isi .bool (.var 0))) .nil)))) .nil)⟩
def fn_is_whole : List D → RD := runD ⟨fns_0, cons, bis, hfns, rs, qs⟩ df_is_whole
def sh_is_whole : SDen :=
  (sSeq (sRet (dAnds [(dUn (isiD (Ty.s .int)) (dVar 0)), (dUn notD (dUn (isiD (Ty.s .bool)) (dVar 0)))]))
  sNil)
theorem fn_is_whole_eq (a0 : D) : fn_is_whole [a0] = endD (sh_is_whole [.va a0]) := id rfl
abbrev fns_1 : List Fd := ⟨"is_whole", 1, none, fn_is_whole⟩ :: fns_0
def fuel_divisor : En → Nat := fun δ => match δ[1]? with | some (Sl.va (D.int b)) => b.natAbs + 1 | _ => 0
def df_divisor : Df := ⟨"divisor", ["one", "other"], 2,
  (.cons (.whl [] fuel_divisor (.cmp .ne (.var 1) (.int 0)) (.cons (.par 0 1 (.var 1) (.bin .mod (.var 0) (.var 1))) .nil)) (.cons (.ret (.bi .abs (.cons (.var 0) .nil))) .nil))⟩
def fn_divisor : List D → RD := runD ⟨fns_1, cons, bis, hfns, rs, qs⟩ df_divisor
def lc1_divisor : Den :=
  (dBin (COp.fn .ne) (dVar 1) (dCst (.int 0)))
def lb1_divisor : SDen :=
  (sSeq (sPar 0 1 [(dVar 1), (dBin modD (dVar 0) (dVar 1))])
  sNil)
def sh_divisor : SDen :=
  (sSeq (sWhl [] fuel_divisor lc1_divisor lb1_divisor)
  (sSeq (sRet (dBi absL [(dVar 0)]))
  sNil))
theorem fn_divisor_eq (a0 a1 : D) : fn_divisor [a0, a1] = endD (sh_divisor [.va a0, .va a1]) := id rfl
abbrev fns_2 : List Fd := ⟨"divisor", 2, none, fn_divisor⟩ :: fns_1
def df_value : Df := ⟨"value", ["top", "bottom", "by"], 2,
  (.cons (.ifs (.or (.cons (.not (.call 1 (.cons (.var 0) .nil))) (.cons (.not (.call 1 (.cons (.var 1) .nil))) (.cons (.and (.cons (.cmp .eq (.var 0) (.int 0)) (.cons (.cmp .eq (.var 1) (.int 0)) .nil))) .nil)))) (.cons (.raise 1) .nil) .nil) (.cons (.ifs (.cmp .eq (.var 1) (.int 0)) (.cons (.ret (.glo 0)) .nil) .nil) (.cons (.asg (.var 2) (.call 0 (.cons (.var 0) (.cons (.var 1) .nil)))) (.cons (.ifs (.cmp .lt (.var 1) (.int 0)) (.cons (.asg (.var 2) (.bin .sub (.int 0) (.var 2))) .nil) .nil) (.cons (.ret (.tup (.cons (.bin .fdiv (.var 0) (.var 2)) (.cons (.bin .fdiv (.var 1) (.var 2)) .nil)))) .nil)))))⟩
def fn_value : List D → RD := runD ⟨fns_2, cons, bis, hfns, rs, qs⟩ df_value
def sh_value : SDen :=
  (sSeq (sIf (dOrs [(dUn notD (dCall fn_is_whole [(dVar 0)])), (dUn notD (dCall fn_is_whole [(dVar 1)])), (dAnds [(dBin (COp.fn .eq) (dVar 0) (dCst (.int 0))), (dBin (COp.fn .eq) (dVar 1) (dCst (.int 0)))])])
  (sSeq (sRaise 1)
  sNil)
  sNil)
  (sSeq (sIf (dBin (COp.fn .eq) (dVar 1) (dCst (.int 0)))
  (sSeq (sRet (dCst cv_FAR))
  sNil)
  sNil)
  (sSeq (sAsg (Tg.st (.var 2)) (dCall fn_divisor [(dVar 0), (dVar 1)]))
  (sSeq (sIf (dBin (COp.fn .lt) (dVar 1) (dCst (.int 0)))
  (sSeq (sAsg (Tg.st (.var 2)) (dBin subD (dCst (.int 0)) (dVar 2)))
  sNil)
  sNil)
  (sSeq (sRet (dTup [(dBin fdivD (dVar 0) (dVar 2)), (dBin fdivD (dVar 1) (dVar 2))]))
  sNil)))))
theorem fn_value_eq (a0 a1 : D) : fn_value [a0, a1] = endD (sh_value [.va a0, .va a1, .no]) := id rfl
abbrev fns_3 : List Fd := ⟨"value", 2, none, fn_value⟩ :: fns_2
def df_fraction : Df := ⟨"fraction", ["top", "bottom"], 2,
  (.cons (.ifs (.or (.cons (.not (.call 2 (.cons (.var 0) .nil))) (.cons (.not (.call 2 (.cons (.var 1) .nil))) (.cons (.cmp .eq (.var 1) (.int 0)) .nil)))) (.cons (.raise 1) .nil) .nil) (.cons (.ret (.call 0 (.cons (.var 0) (.cons (.var 1) .nil)))) .nil))⟩
def fn_fraction : List D → RD := runD ⟨fns_3, cons, bis, hfns, rs, qs⟩ df_fraction
def sh_fraction : SDen :=
  (sSeq (sIf (dOrs [(dUn notD (dCall fn_is_whole [(dVar 0)])), (dUn notD (dCall fn_is_whole [(dVar 1)])), (dBin (COp.fn .eq) (dVar 1) (dCst (.int 0)))])
  (sSeq (sRaise 1)
  sNil)
  sNil)
  (sSeq (sRet (dCall fn_value [(dVar 0), (dVar 1)]))
  sNil))
theorem fn_fraction_eq (a0 a1 : D) : fn_fraction [a0, a1] = endD (sh_fraction [.va a0, .va a1]) := id rfl
abbrev fns_4 : List Fd := ⟨"fraction", 2, none, fn_fraction⟩ :: fns_3
def df_minus : Df := ⟨"minus", ["one", "other"], 2,
  (.cons (.ret (.call 0 (.cons (.bin .sub (.bin .mul (.idx (.var 0) (.int 0)) (.idx (.var 1) (.int 1))) (.bin .mul (.idx (.var 1) (.int 0)) (.idx (.var 0) (.int 1)))) (.cons (.bin .mul (.idx (.var 0) (.int 1)) (.idx (.var 1) (.int 1))) .nil)))) .nil)⟩
def fn_minus : List D → RD := runD ⟨fns_4, cons, bis, hfns, rs, qs⟩ df_minus
def sh_minus : SDen :=
  (sSeq (sRet (dCall fn_fraction [(dBin subD (dBin mulD (dBin idxD (dVar 0) (dCst (.int 0))) (dBin idxD (dVar 1) (dCst (.int 1)))) (dBin mulD (dBin idxD (dVar 1) (dCst (.int 0))) (dBin idxD (dVar 0) (dCst (.int 1))))), (dBin mulD (dBin idxD (dVar 0) (dCst (.int 1))) (dBin idxD (dVar 1) (dCst (.int 1))))]))
  sNil)
theorem fn_minus_eq (a0 a1 : D) : fn_minus [a0, a1] = endD (sh_minus [.va a0, .va a1]) := id rfl
abbrev fns_5 : List Fd := ⟨"minus", 2, none, fn_minus⟩ :: fns_4
def df_times : Df := ⟨"times", ["one", "other"], 2,
  (.cons (.ret (.call 1 (.cons (.bin .mul (.idx (.var 0) (.int 0)) (.idx (.var 1) (.int 0))) (.cons (.bin .mul (.idx (.var 0) (.int 1)) (.idx (.var 1) (.int 1))) .nil)))) .nil)⟩
def fn_times : List D → RD := runD ⟨fns_5, cons, bis, hfns, rs, qs⟩ df_times
def sh_times : SDen :=
  (sSeq (sRet (dCall fn_fraction [(dBin mulD (dBin idxD (dVar 0) (dCst (.int 0))) (dBin idxD (dVar 1) (dCst (.int 0)))), (dBin mulD (dBin idxD (dVar 0) (dCst (.int 1))) (dBin idxD (dVar 1) (dCst (.int 1))))]))
  sNil)
theorem fn_times_eq (a0 a1 : D) : fn_times [a0, a1] = endD (sh_times [.va a0, .va a1]) := id rfl
abbrev fns_6 : List Fd := ⟨"times", 2, none, fn_times⟩ :: fns_5
def df_over : Df := ⟨"over", ["one", "other"], 2,
  (.cons (.ret (.call 2 (.cons (.bin .mul (.idx (.var 0) (.int 0)) (.idx (.var 1) (.int 1))) (.cons (.bin .mul (.idx (.var 0) (.int 1)) (.idx (.var 1) (.int 0))) .nil)))) .nil)⟩
def fn_over : List D → RD := runD ⟨fns_6, cons, bis, hfns, rs, qs⟩ df_over
def sh_over : SDen :=
  (sSeq (sRet (dCall fn_fraction [(dBin mulD (dBin idxD (dVar 0) (dCst (.int 0))) (dBin idxD (dVar 1) (dCst (.int 1)))), (dBin mulD (dBin idxD (dVar 0) (dCst (.int 1))) (dBin idxD (dVar 1) (dCst (.int 0))))]))
  sNil)
theorem fn_over_eq (a0 a1 : D) : fn_over [a0, a1] = endD (sh_over [.va a0, .va a1]) := id rfl
abbrev fns_7 : List Fd := ⟨"over", 2, none, fn_over⟩ :: fns_6
def df_under : Df := ⟨"under", ["one", "other"], 2,
  (.cons (.ret (.cmp .lt (.bin .mul (.idx (.var 0) (.int 0)) (.idx (.var 1) (.int 1))) (.bin .mul (.idx (.var 1) (.int 0)) (.idx (.var 0) (.int 1))))) .nil)⟩
def fn_under : List D → RD := runD ⟨fns_7, cons, bis, hfns, rs, qs⟩ df_under
def sh_under : SDen :=
  (sSeq (sRet (dBin (COp.fn .lt) (dBin mulD (dBin idxD (dVar 0) (dCst (.int 0))) (dBin idxD (dVar 1) (dCst (.int 1)))) (dBin mulD (dBin idxD (dVar 1) (dCst (.int 0))) (dBin idxD (dVar 0) (dCst (.int 1))))))
  sNil)
theorem fn_under_eq (a0 a1 : D) : fn_under [a0, a1] = endD (sh_under [.va a0, .va a1]) := id rfl
abbrev fns_8 : List Fd := ⟨"under", 2, none, fn_under⟩ :: fns_7
def df_is_triple : Df := ⟨"is_triple", ["thing", "number"], 1,
  (.cons (.ifs (.or (.cons (.not (.isi .tup (.var 0))) (.cons (.cmp .ne (.bi .len (.cons (.var 0) .nil)) (.int 3)) .nil))) (.cons (.ret (.bl false)) .nil) .nil) (.cons (.ret (.and (.cons (.bi .all (.cons (.fr (.comp (.call 7 (.cons (.var 1) .nil)) [1] (.var 1) (.seq (.var 0)) .no)) .nil)) (.cons (.cmp .ne (.var 0) (.tup (.cons (.int 0) (.cons (.int 0) (.cons (.int 0) .nil))))) .nil)))) .nil))⟩
def fn_is_triple : List D → RD := runD ⟨fns_8, cons, bis, hfns, rs, qs⟩ df_is_triple
def ce1_is_triple : Den :=
  (dCall fn_is_whole [(dVar 1)])
def sh_is_triple : SDen :=
  (sSeq (sIf (dOrs [(dUn notD (dUn (isiD (Ty.s .tup)) (dVar 0))), (dBin (COp.fn .ne) (dBi lenL [(dVar 0)]) (dCst (.int 3)))])
  (sSeq (sRet (dCst (.bl false)))
  sNil)
  sNil)
  (sSeq (sRet (dAnds [(dBi allL [(dFr (fComp (iSeq (dVar 0)) (Tg.st (.var 1)) none ce1_is_triple [1]))]), (dBin (COp.fn .ne) (dVar 0) (dTup [(dCst (.int 0)), (dCst (.int 0)), (dCst (.int 0))]))]))
  sNil))
theorem fn_is_triple_eq (a0 : D) : fn_is_triple [a0] = endD (sh_is_triple [.va a0, .no]) := id rfl
abbrev fns_9 : List Fd := ⟨"is_triple", 1, none, fn_is_triple⟩ :: fns_8
def df_divided : Df := ⟨"divided", ["numbers", "by", "number", "last"], 1,
  (.cons (.asg (.var 1) (.int 0)) (.cons (.for [2] (.var 2) (.seq (.var 0)) (.cons (.asg (.var 1) (.call 7 (.cons (.var 1) (.cons (.var 2) .nil)))) .nil)) (.cons (.asg (.var 3) (.idx (.fr (.comp (.var 2) [2] (.var 2) (.seq (.var 0)) (.so (.cmp .ne (.var 2) (.int 0))))) (.neg (.int 1)))) (.cons (.ifs (.cmp .lt (.var 3) (.int 0)) (.cons (.asg (.var 1) (.bin .sub (.int 0) (.var 1))) .nil) .nil) (.cons (.ret (.bi .tup (.cons (.fr (.comp (.bin .fdiv (.var 2) (.var 1)) [2] (.var 2) (.seq (.var 0)) .no)) .nil))) .nil)))))⟩
def fn_divided : List D → RD := runD ⟨fns_9, cons, bis, hfns, rs, qs⟩ df_divided
def lb1_divided : SDen :=
  (sSeq (sAsg (Tg.st (.var 1)) (dCall fn_divisor [(dVar 1), (dVar 2)]))
  sNil)
def ct1_divided : Den :=
  (dBin (COp.fn .ne) (dVar 2) (dCst (.int 0)))
def ce1_divided : Den :=
  (dVar 2)
def ce2_divided : Den :=
  (dBin fdivD (dVar 2) (dVar 1))
def sh_divided : SDen :=
  (sSeq (sAsg (Tg.st (.var 1)) (dCst (.int 0)))
  (sSeq (sFor [2] (iSeq (dVar 0)) (Tg.st (.var 2)) lb1_divided)
  (sSeq (sAsg (Tg.st (.var 3)) (dBin idxD (dFr (fComp (iSeq (dVar 0)) (Tg.st (.var 2)) (some ct1_divided) ce1_divided [2])) (dUn negD (dCst (.int 1)))))
  (sSeq (sIf (dBin (COp.fn .lt) (dVar 3) (dCst (.int 0)))
  (sSeq (sAsg (Tg.st (.var 1)) (dBin subD (dCst (.int 0)) (dVar 1)))
  sNil)
  sNil)
  (sSeq (sRet (dBi tupL [(dFr (fComp (iSeq (dVar 0)) (Tg.st (.var 2)) none ce2_divided [2]))]))
  sNil)))))
theorem fn_divided_eq (a0 : D) : fn_divided [a0] = endD (sh_divided [.va a0, .no, .no, .no]) := id rfl
abbrev fns_10 : List Fd := ⟨"divided", 1, none, fn_divided⟩ :: fns_9
def df_spot : Df := ⟨"spot", ["triple"], 1,
  (.cons (.ifs (.not (.call 1 (.cons (.var 0) .nil))) (.cons (.raise 2) .nil) .nil) (.cons (.ret (.call 0 (.cons (.var 0) .nil))) .nil))⟩
def fn_spot : List D → RD := runD ⟨fns_10, cons, bis, hfns, rs, qs⟩ df_spot
def sh_spot : SDen :=
  (sSeq (sIf (dUn notD (dCall fn_is_triple [(dVar 0)]))
  (sSeq (sRaise 2)
  sNil)
  sNil)
  (sSeq (sRet (dCall fn_divided [(dVar 0)]))
  sNil))
theorem fn_spot_eq (a0 : D) : fn_spot [a0] = endD (sh_spot [.va a0]) := id rfl
abbrev fns_11 : List Fd := ⟨"spot", 1, none, fn_spot⟩ :: fns_10
def df_crossed : Df := ⟨"crossed", ["one", "other"], 2,
  (.cons (.ret (.tup (.cons (.bin .sub (.bin .mul (.idx (.var 0) (.int 1)) (.idx (.var 1) (.int 2))) (.bin .mul (.idx (.var 0) (.int 2)) (.idx (.var 1) (.int 1)))) (.cons (.bin .sub (.bin .mul (.idx (.var 0) (.int 2)) (.idx (.var 1) (.int 0))) (.bin .mul (.idx (.var 0) (.int 0)) (.idx (.var 1) (.int 2)))) (.cons (.bin .sub (.bin .mul (.idx (.var 0) (.int 0)) (.idx (.var 1) (.int 1))) (.bin .mul (.idx (.var 0) (.int 1)) (.idx (.var 1) (.int 0)))) .nil))))) .nil)⟩
def fn_crossed : List D → RD := runD ⟨fns_11, cons, bis, hfns, rs, qs⟩ df_crossed
def sh_crossed : SDen :=
  (sSeq (sRet (dTup [(dBin subD (dBin mulD (dBin idxD (dVar 0) (dCst (.int 1))) (dBin idxD (dVar 1) (dCst (.int 2)))) (dBin mulD (dBin idxD (dVar 0) (dCst (.int 2))) (dBin idxD (dVar 1) (dCst (.int 1))))), (dBin subD (dBin mulD (dBin idxD (dVar 0) (dCst (.int 2))) (dBin idxD (dVar 1) (dCst (.int 0)))) (dBin mulD (dBin idxD (dVar 0) (dCst (.int 0))) (dBin idxD (dVar 1) (dCst (.int 2))))), (dBin subD (dBin mulD (dBin idxD (dVar 0) (dCst (.int 0))) (dBin idxD (dVar 1) (dCst (.int 1)))) (dBin mulD (dBin idxD (dVar 0) (dCst (.int 1))) (dBin idxD (dVar 1) (dCst (.int 0)))))]))
  sNil)
theorem fn_crossed_eq (a0 a1 : D) : fn_crossed [a0, a1] = endD (sh_crossed [.va a0, .va a1]) := id rfl
abbrev fns_12 : List Fd := ⟨"crossed_spots", 2, none, fn_crossed⟩ :: fns_11
def df_together : Df := ⟨"together", ["one", "other"], 2,
  (.cons (.ret (.bin .add (.bin .add (.bin .mul (.idx (.var 0) (.int 0)) (.idx (.var 1) (.int 0))) (.bin .mul (.idx (.var 0) (.int 1)) (.idx (.var 1) (.int 1)))) (.bin .mul (.idx (.var 0) (.int 2)) (.idx (.var 1) (.int 2))))) .nil)⟩
def fn_together : List D → RD := runD ⟨fns_12, cons, bis, hfns, rs, qs⟩ df_together
def sh_together : SDen :=
  (sSeq (sRet (dBin addD (dBin addD (dBin mulD (dBin idxD (dVar 0) (dCst (.int 0))) (dBin idxD (dVar 1) (dCst (.int 0)))) (dBin mulD (dBin idxD (dVar 0) (dCst (.int 1))) (dBin idxD (dVar 1) (dCst (.int 1))))) (dBin mulD (dBin idxD (dVar 0) (dCst (.int 2))) (dBin idxD (dVar 1) (dCst (.int 2))))))
  sNil)
theorem fn_together_eq (a0 a1 : D) : fn_together [a0, a1] = endD (sh_together [.va a0, .va a1]) := id rfl
abbrev fns_13 : List Fd := ⟨"together", 2, none, fn_together⟩ :: fns_12
def df_determinant : Df := ⟨"determinant", ["one", "two", "three"], 3,
  (.cons (.ret (.call 0 (.cons (.call 1 (.cons (.var 0) (.cons (.var 1) .nil))) (.cons (.var 2) .nil)))) .nil)⟩
def fn_determinant : List D → RD := runD ⟨fns_13, cons, bis, hfns, rs, qs⟩ df_determinant
def sh_determinant : SDen :=
  (sSeq (sRet (dCall fn_together [(dCall fn_crossed [(dVar 0), (dVar 1)]), (dVar 2)]))
  sNil)
theorem fn_determinant_eq (a0 a1 a2 : D) : fn_determinant [a0, a1, a2] = endD (sh_determinant [.va a0, .va a1, .va a2]) := id rfl
abbrev fns_14 : List Fd := ⟨"determinant", 3, none, fn_determinant⟩ :: fns_13
def df_joined : Df := ⟨"joined", ["one", "other"], 2,
  (.cons (.ifs (.cmp .eq (.var 0) (.var 1)) (.cons (.raise 3) .nil) .nil) (.cons (.ret (.call 3 (.cons (.call 2 (.cons (.var 0) (.cons (.var 1) .nil))) .nil))) .nil))⟩
def fn_joined : List D → RD := runD ⟨fns_14, cons, bis, hfns, rs, qs⟩ df_joined
def sh_joined : SDen :=
  (sSeq (sIf (dBin (COp.fn .eq) (dVar 0) (dVar 1))
  (sSeq (sRaise 3)
  sNil)
  sNil)
  (sSeq (sRet (dCall fn_spot [(dCall fn_crossed [(dVar 0), (dVar 1)])]))
  sNil))
theorem fn_joined_eq (a0 a1 : D) : fn_joined [a0, a1] = endD (sh_joined [.va a0, .va a1]) := id rfl
abbrev fns_15 : List Fd := ⟨"joined", 2, none, fn_joined⟩ :: fns_14
def fuel_divisor_of : En → Nat := fun δ => match δ[3]? with | some (Sl.va (D.int b)) => b.natAbs + 1 | _ => 0
def df_divisor_of : Df := ⟨"divisor_of", ["numbers", "found", "number", "one"], 1,
  (.cons (.asg (.var 1) (.int 0)) (.cons (.for [2, 3] (.var 2) (.seq (.var 0)) (.cons (.asg (.var 3) (.bi .abs (.cons (.var 2) .nil))) (.cons (.whl [] fuel_divisor_of (.cmp .gt (.var 3) (.int 0)) (.cons (.par 1 3 (.var 3) (.bin .mod (.var 1) (.var 3))) .nil)) .nil))) (.cons (.ret (.var 1)) .nil)))⟩
def fn_divisor_of : List D → RD := runD ⟨fns_15, cons, bis, hfns, rs, qs⟩ df_divisor_of
def lc1_divisor_of : Den :=
  (dBin (COp.fn .gt) (dVar 3) (dCst (.int 0)))
def lb2_divisor_of : SDen :=
  (sSeq (sPar 1 3 [(dVar 3), (dBin modD (dVar 1) (dVar 3))])
  sNil)
def lb1_divisor_of : SDen :=
  (sSeq (sAsg (Tg.st (.var 3)) (dBi absL [(dVar 2)]))
  (sSeq (sWhl [] fuel_divisor_of lc1_divisor_of lb2_divisor_of)
  sNil))
def sh_divisor_of : SDen :=
  (sSeq (sAsg (Tg.st (.var 1)) (dCst (.int 0)))
  (sSeq (sFor [2, 3] (iSeq (dVar 0)) (Tg.st (.var 2)) lb1_divisor_of)
  (sSeq (sRet (dVar 1))
  sNil)))
theorem fn_divisor_of_eq (a0 : D) : fn_divisor_of [a0] = endD (sh_divisor_of [.va a0, .no, .no, .no]) := id rfl
abbrev fns_16 : List Fd := ⟨"divisor_of", 1, none, fn_divisor_of⟩ :: fns_15
def df_last_of : Df := ⟨"last_of", ["numbers", "number"], 1,
  (.cons (.ret (.idx (.fr (.comp (.var 1) [1] (.var 1) (.seq (.var 0)) (.so (.cmp .ne (.var 1) (.int 0))))) (.neg (.int 1)))) .nil)⟩
def fn_last_of : List D → RD := runD ⟨fns_16, cons, bis, hfns, rs, qs⟩ df_last_of
def ct1_last_of : Den :=
  (dBin (COp.fn .ne) (dVar 1) (dCst (.int 0)))
def ce1_last_of : Den :=
  (dVar 1)
def sh_last_of : SDen :=
  (sSeq (sRet (dBin idxD (dFr (fComp (iSeq (dVar 0)) (Tg.st (.var 1)) (some ct1_last_of) ce1_last_of [1])) (dUn negD (dCst (.int 1)))))
  sNil)
theorem fn_last_of_eq (a0 : D) : fn_last_of [a0] = endD (sh_last_of [.va a0, .no]) := id rfl
abbrev fns_17 : List Fd := ⟨"last_of", 1, none, fn_last_of⟩ :: fns_16
def df_crossed_2 : Df := ⟨"crossed", ["one", "other", "a", "b", "c", "d", "e", "f"], 2,
  (.cons (.asg (.tup [2, 3, 4]) (.var 0)) (.cons (.asg (.tup [5, 6, 7]) (.var 1)) (.cons (.ret (.tup (.cons (.bin .sub (.bin .mul (.var 3) (.var 7)) (.bin .mul (.var 4) (.var 6))) (.cons (.bin .sub (.bin .mul (.var 4) (.var 5)) (.bin .mul (.var 2) (.var 7))) (.cons (.bin .sub (.bin .mul (.var 2) (.var 6)) (.bin .mul (.var 3) (.var 5))) .nil))))) .nil)))⟩
def fn_crossed_2 : List D → RD := runD ⟨fns_17, cons, bis, hfns, rs, qs⟩ df_crossed_2
def sh_crossed_2 : SDen :=
  (sSeq (sAsg (Tg.st (.tup [2, 3, 4])) (dVar 0))
  (sSeq (sAsg (Tg.st (.tup [5, 6, 7])) (dVar 1))
  (sSeq (sRet (dTup [(dBin subD (dBin mulD (dVar 3) (dVar 7)) (dBin mulD (dVar 4) (dVar 6))), (dBin subD (dBin mulD (dVar 4) (dVar 5)) (dBin mulD (dVar 2) (dVar 7))), (dBin subD (dBin mulD (dVar 2) (dVar 6)) (dBin mulD (dVar 3) (dVar 5)))]))
  sNil)))
theorem fn_crossed_2_eq (a0 a1 : D) : fn_crossed_2 [a0, a1] = endD (sh_crossed_2 [.va a0, .va a1, .no, .no, .no, .no, .no, .no]) := id rfl
abbrev fns_18 : List Fd := ⟨"crossed_scales", 2, none, fn_crossed_2⟩ :: fns_17
def df_scale : Df := ⟨"scale", ["p", "q", "numbers", "by", "divided", "number"], 2,
  (.cons (.ifs (.or (.cons (.not (.call 9 (.cons (.var 0) .nil))) (.cons (.not (.call 9 (.cons (.var 1) .nil))) (.cons (.cmp .eq (.call 0 (.cons (.var 0) (.cons (.var 1) .nil))) (.tup (.cons (.int 0) (.cons (.int 0) (.cons (.int 0) .nil))))) .nil)))) (.cons (.raise 4) .nil) .nil) (.cons (.asg (.var 2) (.bin .add (.var 0) (.var 1))) (.cons (.asg (.var 3) (.call 2 (.cons (.var 2) .nil))) (.cons (.ifs (.cmp .lt (.call 1 (.cons (.var 2) .nil)) (.int 0)) (.cons (.asg (.var 3) (.bin .sub (.int 0) (.var 3))) .nil) .nil) (.cons (.asg (.var 4) (.bi .tup (.cons (.fr (.comp (.bin .fdiv (.var 5) (.var 3)) [5] (.var 5) (.seq (.var 2)) .no)) .nil))) (.cons (.ret (.tup (.cons (.cut (.var 4) .no (.so (.int 3))) (.cons (.cut (.var 4) (.so (.int 3)) .no) .nil)))) .nil))))))⟩
def fn_scale : List D → RD := runD ⟨fns_18, cons, bis, hfns, rs, qs⟩ df_scale
def ce1_scale : Den :=
  (dBin fdivD (dVar 5) (dVar 3))
def sh_scale : SDen :=
  (sSeq (sIf (dOrs [(dUn notD (dCall fn_is_triple [(dVar 0)])), (dUn notD (dCall fn_is_triple [(dVar 1)])), (dBin (COp.fn .eq) (dCall fn_crossed_2 [(dVar 0), (dVar 1)]) (dTup [(dCst (.int 0)), (dCst (.int 0)), (dCst (.int 0))]))])
  (sSeq (sRaise 4)
  sNil)
  sNil)
  (sSeq (sAsg (Tg.st (.var 2)) (dBin addD (dVar 0) (dVar 1)))
  (sSeq (sAsg (Tg.st (.var 3)) (dCall fn_divisor_of [(dVar 2)]))
  (sSeq (sIf (dBin (COp.fn .lt) (dCall fn_last_of [(dVar 2)]) (dCst (.int 0)))
  (sSeq (sAsg (Tg.st (.var 3)) (dBin subD (dCst (.int 0)) (dVar 3)))
  sNil)
  sNil)
  (sSeq (sAsg (Tg.st (.var 4)) (dBi tupL [(dFr (fComp (iSeq (dVar 2)) (Tg.st (.var 5)) none ce1_scale [5]))]))
  (sSeq (sRet (dTup [(dCut (dVar 4) none (some (dCst (.int 3)))), (dCut (dVar 4) (some (dCst (.int 3))) none)]))
  sNil))))))
theorem fn_scale_eq (a0 a1 : D) : fn_scale [a0, a1] = endD (sh_scale [.va a0, .va a1, .no, .no, .no, .no]) := id rfl
abbrev fns_19 : List Fd := ⟨"scale", 2, none, fn_scale⟩ :: fns_18
def df_mark : Df := ⟨"mark", ["one", "told", "p", "q", "u", "v", "a", "b"], 2,
  (.cons (.asg (.tup [2, 3]) (.var 0)) (.cons (.asg (.tup [4, 5]) (.var 1)) (.cons (.ret (.call 8 (.cons (.bi .tup (.cons (.fr (.comp (.bin .add (.bin .mul (.var 5) (.var 6)) (.bin .mul (.var 4) (.var 7))) [6, 7] (.tup [6, 7]) (.zip (.var 2) (.var 3)) .no)) .nil)) .nil))) .nil)))⟩
def fn_mark : List D → RD := runD ⟨fns_19, cons, bis, hfns, rs, qs⟩ df_mark
def ce1_mark : Den :=
  (dBin addD (dBin mulD (dVar 5) (dVar 6)) (dBin mulD (dVar 4) (dVar 7)))
def sh_mark : SDen :=
  (sSeq (sAsg (Tg.st (.tup [2, 3])) (dVar 0))
  (sSeq (sAsg (Tg.st (.tup [4, 5])) (dVar 1))
  (sSeq (sRet (dCall fn_spot [(dBi tupL [(dFr (fComp (iLs zipL [(dVar 2), (dVar 3)]) (Tg.st (.tup [6, 7])) none ce1_mark [6, 7]))])]))
  sNil)))
theorem fn_mark_eq (a0 a1 : D) : fn_mark [a0, a1] = endD (sh_mark [.va a0, .va a1, .no, .no, .no, .no, .no, .no]) := id rfl
abbrev fns_20 : List Fd := ⟨"mark", 2, none, fn_mark⟩ :: fns_19
def df_line_of : Df := ⟨"line_of", ["one"], 1,
  (.cons (.ret (.call 5 (.cons (.call 9 (.cons (.idx (.var 0) (.int 0)) .nil)) (.cons (.call 9 (.cons (.idx (.var 0) (.int 1)) .nil)) .nil)))) .nil)⟩
def fn_line_of : List D → RD := runD ⟨fns_20, cons, bis, hfns, rs, qs⟩ df_line_of
def sh_line_of : SDen :=
  (sSeq (sRet (dCall fn_joined [(dCall fn_spot [(dBin idxD (dVar 0) (dCst (.int 0)))]), (dCall fn_spot [(dBin idxD (dVar 0) (dCst (.int 1)))])]))
  sNil)
theorem fn_line_of_eq (a0 : D) : fn_line_of [a0] = endD (sh_line_of [.va a0]) := id rfl
abbrev fns_21 : List Fd := ⟨"line_of", 1, none, fn_line_of⟩ :: fns_20
def fuel_shared_by : En → Nat := fun δ => match δ[3]? with | some (Sl.va (D.int b)) => b.natAbs + 1 | _ => 0
def df_shared_by : Df := ⟨"shared_by", ["numbers", "found", "number", "one"], 1,
  (.cons (.asg (.var 1) (.int 0)) (.cons (.for [2, 3] (.var 2) (.seq (.var 0)) (.cons (.asg (.var 3) (.bi .abs (.cons (.var 2) .nil))) (.cons (.whl [] fuel_shared_by (.cmp .gt (.var 3) (.int 0)) (.cons (.par 1 3 (.var 3) (.bin .mod (.var 1) (.var 3))) .nil)) .nil))) (.cons (.ret (.var 1)) .nil)))⟩
def fn_shared_by : List D → RD := runD ⟨fns_21, cons, bis, hfns, rs, qs⟩ df_shared_by
def lc1_shared_by : Den :=
  (dBin (COp.fn .gt) (dVar 3) (dCst (.int 0)))
def lb2_shared_by : SDen :=
  (sSeq (sPar 1 3 [(dVar 3), (dBin modD (dVar 1) (dVar 3))])
  sNil)
def lb1_shared_by : SDen :=
  (sSeq (sAsg (Tg.st (.var 3)) (dBi absL [(dVar 2)]))
  (sSeq (sWhl [] fuel_shared_by lc1_shared_by lb2_shared_by)
  sNil))
def sh_shared_by : SDen :=
  (sSeq (sAsg (Tg.st (.var 1)) (dCst (.int 0)))
  (sSeq (sFor [2, 3] (iSeq (dVar 0)) (Tg.st (.var 2)) lb1_shared_by)
  (sSeq (sRet (dVar 1))
  sNil)))
theorem fn_shared_by_eq (a0 : D) : fn_shared_by [a0] = endD (sh_shared_by [.va a0, .no, .no, .no]) := id rfl
abbrev fns_22 : List Fd := ⟨"shared_by", 1, none, fn_shared_by⟩ :: fns_21
def df_chart : Df := ⟨"chart", ["first", "second", "third", "lines"], 3,
  (.cons (.asg (.var 3) (.fr (.lst (.cons (.call 1 (.cons (.var 0) .nil)) (.cons (.call 1 (.cons (.var 1) .nil)) (.cons (.call 1 (.cons (.var 2) .nil)) .nil)))))) (.cons (.ifs (.and (.cons (.cmp .eq (.idx (.var 3) (.int 0)) (.idx (.var 3) (.int 1))) (.cons (.cmp .eq (.idx (.var 3) (.int 1)) (.idx (.var 3) (.int 2))) .nil))) (.cons (.raise 5) .nil) .nil) (.cons (.ret (.tup (.cons (.var 0) (.cons (.var 1) (.cons (.var 2) .nil))))) .nil)))⟩
def fn_chart : List D → RD := runD ⟨fns_22, cons, bis, hfns, rs, qs⟩ df_chart
def sh_chart : SDen :=
  (sSeq (sAsg (Tg.st (.var 3)) (dFr (fLst [(dCall fn_line_of [(dVar 0)]), (dCall fn_line_of [(dVar 1)]), (dCall fn_line_of [(dVar 2)])])))
  (sSeq (sIf (dAnds [(dBin (COp.fn .eq) (dBin idxD (dVar 3) (dCst (.int 0))) (dBin idxD (dVar 3) (dCst (.int 1)))), (dBin (COp.fn .eq) (dBin idxD (dVar 3) (dCst (.int 1))) (dBin idxD (dVar 3) (dCst (.int 2))))])
  (sSeq (sRaise 5)
  sNil)
  sNil)
  (sSeq (sRet (dTup [(dVar 0), (dVar 1), (dVar 2)]))
  sNil)))
theorem fn_chart_eq (a0 a1 a2 : D) : fn_chart [a0, a1, a2] = endD (sh_chart [.va a0, .va a1, .va a2, .no]) := id rfl
abbrev fns_23 : List Fd := ⟨"chart", 3, none, fn_chart⟩ :: fns_22
def df_equation : Df := ⟨"equation", ["one", "found", "i", "by", "first", "second", "third", "j", "k", "number"], 1,
  (.cons (.asg (.tup [4, 5, 6]) (.var 0)) (.cons (.own 1 (.lst .nil)) (.cons (.for [2, 7, 8] (.var 2) (.rng1 (.int 2)) (.cons (.for [7, 8] (.var 7) (.rng1 (.int 2)) (.cons (.for [8] (.var 8) (.rng1 (.int 2)) (.cons (.app 1 (.call 9 (.cons (.idx (.var 4) (.var 2)) (.cons (.idx (.var 5) (.var 7)) (.cons (.idx (.var 6) (.var 8)) .nil))))) .nil)) .nil)) .nil)) (.cons (.asg (.var 3) (.call 1 (.cons (.var 1) .nil))) (.cons (.ifs (.cmp .lt (.idx (.fr (.comp (.var 9) [9] (.var 9) (.own 1) (.so (.cmp .ne (.var 9) (.int 0))))) (.int 0)) (.int 0)) (.cons (.asg (.var 3) (.bin .sub (.int 0) (.var 3))) .nil) .nil) (.cons (.ret (.bi .tup (.cons (.fr (.comp (.bin .fdiv (.var 9) (.var 3)) [9] (.var 9) (.own 1) .no)) .nil))) .nil))))))⟩
def fn_equation : List D → RD := runD ⟨fns_23, cons, bis, hfns, rs, qs⟩ df_equation
def lb3_equation : SDen :=
  (sSeq (sApp 1 (dCall fn_determinant [(dBin idxD (dVar 4) (dVar 2)), (dBin idxD (dVar 5) (dVar 7)), (dBin idxD (dVar 6) (dVar 8))]))
  sNil)
def lb2_equation : SDen :=
  (sSeq (sFor [8] (iRng [(dCst (.int 2))]) (Tg.st (.var 8)) lb3_equation)
  sNil)
def lb1_equation : SDen :=
  (sSeq (sFor [7, 8] (iRng [(dCst (.int 2))]) (Tg.st (.var 7)) lb2_equation)
  sNil)
def ct1_equation : Den :=
  (dBin (COp.fn .ne) (dVar 9) (dCst (.int 0)))
def ce1_equation : Den :=
  (dVar 9)
def ce2_equation : Den :=
  (dBin fdivD (dVar 9) (dVar 3))
def sh_equation : SDen :=
  (sSeq (sAsg (Tg.st (.tup [4, 5, 6])) (dVar 0))
  (sSeq (sOwn 1 (fLst []))
  (sSeq (sFor [2, 7, 8] (iRng [(dCst (.int 2))]) (Tg.st (.var 2)) lb1_equation)
  (sSeq (sAsg (Tg.st (.var 3)) (dCall fn_shared_by [(dVar 1)]))
  (sSeq (sIf (dBin (COp.fn .lt) (dBin idxD (dFr (fCompB 1 (Tg.st (.var 9)) (some ct1_equation) ce1_equation [9])) (dCst (.int 0))) (dCst (.int 0)))
  (sSeq (sAsg (Tg.st (.var 3)) (dBin subD (dCst (.int 0)) (dVar 3)))
  sNil)
  sNil)
  (sSeq (sRet (dBi tupL [(dFr (fCompB 1 (Tg.st (.var 9)) none ce2_equation [9]))]))
  sNil))))))
theorem fn_equation_eq (a0 : D) : fn_equation [a0] = endD (sh_equation [.va a0, .no, .no, .no, .no, .no, .no, .no, .no, .no]) := id rfl
abbrev fns_24 : List Fd := ⟨"equation", 1, none, fn_equation⟩ :: fns_23
def df_plain : Df := ⟨"plain", ["word"], 1,
  (.cons (.ifs (.cmp .eq (.var 0) (.str "plus")) (.cons (.ret (.call 1 (.cons (.call 5 (.cons (.tup (.cons (.int 0) (.cons (.int 0) (.cons (.int 1) .nil)))) (.cons (.tup (.cons (.int 0) (.cons (.int 1) (.cons (.int 0) .nil)))) .nil))) (.cons (.call 5 (.cons (.tup (.cons (.int 2) (.cons (.int 0) (.cons (.int 1) .nil)))) (.cons (.tup (.cons (.int 0) (.cons (.int 1) (.cons (.int 0) .nil)))) .nil))) (.cons (.call 5 (.cons (.tup (.cons (.int 2) (.cons (.int 0) (.cons (.int 2) .nil)))) (.cons (.tup (.cons (.int 0) (.cons (.int 1) (.cons (.int 0) .nil)))) .nil))) .nil))))) .nil) .nil) (.cons (.ifs (.cmp .eq (.var 0) (.str "times")) (.cons (.ret (.call 1 (.cons (.call 5 (.cons (.tup (.cons (.int 0) (.cons (.int 0) (.cons (.int 1) .nil)))) (.cons (.tup (.cons (.int 0) (.cons (.int 1) (.cons (.int 0) .nil)))) .nil))) (.cons (.call 5 (.cons (.tup (.cons (.int 1) (.cons (.int 0) (.cons (.int 1) .nil)))) (.cons (.tup (.cons (.int 0) (.cons (.int 0) (.cons (.int 1) .nil)))) .nil))) (.cons (.call 5 (.cons (.tup (.cons (.neg (.int 1)) (.cons (.int 0) (.cons (.neg (.int 1)) .nil)))) (.cons (.tup (.cons (.int 0) (.cons (.int 1) (.cons (.int 0) .nil)))) .nil))) .nil))))) .nil) .nil) (.cons (.ifs (.cmp .eq (.var 0) (.str "share")) (.cons (.ret (.call 1 (.cons (.call 5 (.cons (.tup (.cons (.int 0) (.cons (.int 0) (.cons (.int 1) .nil)))) (.cons (.tup (.cons (.int 1) (.cons (.int 0) (.cons (.int 0) .nil)))) .nil))) (.cons (.call 5 (.cons (.tup (.cons (.int 0) (.cons (.int 0) (.cons (.int 1) .nil)))) (.cons (.tup (.cons (.int 0) (.cons (.int 1) (.cons (.int 0) .nil)))) .nil))) (.cons (.call 5 (.cons (.tup (.cons (.int 0) (.cons (.int 0) (.cons (.int 1) .nil)))) (.cons (.tup (.cons (.int 1) (.cons (.int 1) (.cons (.int 0) .nil)))) .nil))) .nil))))) .nil) .nil) (.cons (.raise 5) .nil))))⟩
def fn_plain : List D → RD := runD ⟨fns_24, cons, bis, hfns, rs, qs⟩ df_plain
def sh_plain : SDen :=
  (sSeq (sIf (dBin (COp.fn .eq) (dVar 0) (dCst (.str "plus")))
  (sSeq (sRet (dCall fn_chart [(dCall fn_scale [(dTup [(dCst (.int 0)), (dCst (.int 0)), (dCst (.int 1))]), (dTup [(dCst (.int 0)), (dCst (.int 1)), (dCst (.int 0))])]), (dCall fn_scale [(dTup [(dCst (.int 2)), (dCst (.int 0)), (dCst (.int 1))]), (dTup [(dCst (.int 0)), (dCst (.int 1)), (dCst (.int 0))])]), (dCall fn_scale [(dTup [(dCst (.int 2)), (dCst (.int 0)), (dCst (.int 2))]), (dTup [(dCst (.int 0)), (dCst (.int 1)), (dCst (.int 0))])])]))
  sNil)
  sNil)
  (sSeq (sIf (dBin (COp.fn .eq) (dVar 0) (dCst (.str "times")))
  (sSeq (sRet (dCall fn_chart [(dCall fn_scale [(dTup [(dCst (.int 0)), (dCst (.int 0)), (dCst (.int 1))]), (dTup [(dCst (.int 0)), (dCst (.int 1)), (dCst (.int 0))])]), (dCall fn_scale [(dTup [(dCst (.int 1)), (dCst (.int 0)), (dCst (.int 1))]), (dTup [(dCst (.int 0)), (dCst (.int 0)), (dCst (.int 1))])]), (dCall fn_scale [(dTup [(dUn negD (dCst (.int 1))), (dCst (.int 0)), (dUn negD (dCst (.int 1)))]), (dTup [(dCst (.int 0)), (dCst (.int 1)), (dCst (.int 0))])])]))
  sNil)
  sNil)
  (sSeq (sIf (dBin (COp.fn .eq) (dVar 0) (dCst (.str "share")))
  (sSeq (sRet (dCall fn_chart [(dCall fn_scale [(dTup [(dCst (.int 0)), (dCst (.int 0)), (dCst (.int 1))]), (dTup [(dCst (.int 1)), (dCst (.int 0)), (dCst (.int 0))])]), (dCall fn_scale [(dTup [(dCst (.int 0)), (dCst (.int 0)), (dCst (.int 1))]), (dTup [(dCst (.int 0)), (dCst (.int 1)), (dCst (.int 0))])]), (dCall fn_scale [(dTup [(dCst (.int 0)), (dCst (.int 0)), (dCst (.int 1))]), (dTup [(dCst (.int 1)), (dCst (.int 1)), (dCst (.int 0))])])]))
  sNil)
  sNil)
  (sSeq (sRaise 5)
  sNil))))
theorem fn_plain_eq (a0 : D) : fn_plain [a0] = endD (sh_plain [.va a0]) := id rfl
abbrev fns_25 : List Fd := ⟨"plain", 1, none, fn_plain⟩ :: fns_24
def fuel_shared : En → Nat := fun δ => match δ[3]? with | some (Sl.va (D.int b)) => b.natAbs + 1 | _ => 0
def df_shared : Df := ⟨"shared", ["numbers", "found", "number", "one"], 1,
  (.cons (.asg (.var 1) (.int 0)) (.cons (.for [2, 3] (.var 2) (.seq (.var 0)) (.cons (.asg (.var 3) (.bi .abs (.cons (.var 2) .nil))) (.cons (.whl [] fuel_shared (.cmp .ne (.var 3) (.int 0)) (.cons (.par 1 3 (.var 3) (.bin .mod (.var 1) (.var 3))) .nil)) .nil))) (.cons (.ret (.var 1)) .nil)))⟩
def fn_shared : List D → RD := runD ⟨fns_25, cons, bis, hfns, rs, qs⟩ df_shared
def lc1_shared : Den :=
  (dBin (COp.fn .ne) (dVar 3) (dCst (.int 0)))
def lb2_shared : SDen :=
  (sSeq (sPar 1 3 [(dVar 3), (dBin modD (dVar 1) (dVar 3))])
  sNil)
def lb1_shared : SDen :=
  (sSeq (sAsg (Tg.st (.var 3)) (dBi absL [(dVar 2)]))
  (sSeq (sWhl [] fuel_shared lc1_shared lb2_shared)
  sNil))
def sh_shared : SDen :=
  (sSeq (sAsg (Tg.st (.var 1)) (dCst (.int 0)))
  (sSeq (sFor [2, 3] (iSeq (dVar 0)) (Tg.st (.var 2)) lb1_shared)
  (sSeq (sRet (dVar 1))
  sNil)))
theorem fn_shared_eq (a0 : D) : fn_shared [a0] = endD (sh_shared [.va a0, .no, .no, .no]) := id rfl
abbrev fns_26 : List Fd := ⟨"shared", 1, none, fn_shared⟩ :: fns_25
def df_rows_of : Df := ⟨"rows_of", ["numbers", "k"], 1,
  (.cons (.ret (.fr (.comp (.bi .tup (.cons (.cut (.var 0) (.so (.bin .mul (.int 3) (.var 1))) (.so (.bin .add (.bin .mul (.int 3) (.var 1)) (.int 3)))) .nil)) [1] (.var 1) (.rng1 (.int 3)) .no))) .nil)⟩
def fn_rows_of : List D → RD := runD ⟨fns_26, cons, bis, hfns, rs, qs⟩ df_rows_of
def ce1_rows_of : Den :=
  (dBi tupL [(dCut (dVar 0) (some (dBin mulD (dCst (.int 3)) (dVar 1))) (some (dBin addD (dBin mulD (dCst (.int 3)) (dVar 1)) (dCst (.int 3)))))])
def sh_rows_of : SDen :=
  (sSeq (sRet (dFr (fComp (iRng [(dCst (.int 3))]) (Tg.st (.var 1)) none ce1_rows_of [1])))
  sNil)
theorem fn_rows_of_eq (a0 : D) : fn_rows_of [a0] = endD (sh_rows_of [.va a0, .no]) := id rfl
abbrev fns_27 : List Fd := ⟨"rows_of", 1, none, fn_rows_of⟩ :: fns_26
def df_plane_map : Df := ⟨"plane_map", ["numbers", "by", "first", "second", "third", "number", "one"], 1,
  (.cons (.ifs (.or (.cons (.not (.isi2 .lst .tup (.var 0))) (.cons (.cmp .ne (.bi .len (.cons (.var 0) .nil)) (.int 9)) (.cons (.not (.bi .all (.cons (.fr (.comp (.call 26 (.cons (.var 6) .nil)) [6] (.var 6) (.seq (.var 0)) .no)) .nil))) .nil)))) (.cons (.raise 6) .nil) .nil) (.cons (.asg (.tup [2, 3, 4]) (.call 0 (.cons (.var 0) .nil))) (.cons (.ifs (.cmp .eq (.call 13 (.cons (.var 2) (.cons (.var 3) (.cons (.var 4) .nil)))) (.int 0)) (.cons (.raise 6) .nil) .nil) (.cons (.asg (.var 1) (.call 1 (.cons (.var 0) .nil))) (.cons (.ifs (.cmp .lt (.idx (.fr (.comp (.var 5) [5] (.var 5) (.seq (.var 0)) (.so (.cmp .ne (.var 5) (.int 0))))) (.neg (.int 1))) (.int 0)) (.cons (.asg (.var 1) (.bin .sub (.int 0) (.var 1))) .nil) .nil) (.cons (.ret (.bi .tup (.cons (.fr (.comp (.bin .fdiv (.var 5) (.var 1)) [5] (.var 5) (.seq (.var 0)) .no)) .nil))) .nil))))))⟩
def fn_plane_map : List D → RD := runD ⟨fns_27, cons, bis, hfns, rs, qs⟩ df_plane_map
def ce1_plane_map : Den :=
  (dCall fn_is_whole [(dVar 6)])
def ct1_plane_map : Den :=
  (dBin (COp.fn .ne) (dVar 5) (dCst (.int 0)))
def ce2_plane_map : Den :=
  (dVar 5)
def ce3_plane_map : Den :=
  (dBin fdivD (dVar 5) (dVar 1))
def sh_plane_map : SDen :=
  (sSeq (sIf (dOrs [(dUn notD (dUn (isi2D (Ty.s .lst) (Ty.s .tup)) (dVar 0))), (dBin (COp.fn .ne) (dBi lenL [(dVar 0)]) (dCst (.int 9))), (dUn notD (dBi allL [(dFr (fComp (iSeq (dVar 0)) (Tg.st (.var 6)) none ce1_plane_map [6]))]))])
  (sSeq (sRaise 6)
  sNil)
  sNil)
  (sSeq (sAsg (Tg.st (.tup [2, 3, 4])) (dCall fn_rows_of [(dVar 0)]))
  (sSeq (sIf (dBin (COp.fn .eq) (dCall fn_determinant [(dVar 2), (dVar 3), (dVar 4)]) (dCst (.int 0)))
  (sSeq (sRaise 6)
  sNil)
  sNil)
  (sSeq (sAsg (Tg.st (.var 1)) (dCall fn_shared [(dVar 0)]))
  (sSeq (sIf (dBin (COp.fn .lt) (dBin idxD (dFr (fComp (iSeq (dVar 0)) (Tg.st (.var 5)) (some ct1_plane_map) ce2_plane_map [5])) (dUn negD (dCst (.int 1)))) (dCst (.int 0)))
  (sSeq (sAsg (Tg.st (.var 1)) (dBin subD (dCst (.int 0)) (dVar 1)))
  sNil)
  sNil)
  (sSeq (sRet (dBi tupL [(dFr (fComp (iSeq (dVar 0)) (Tg.st (.var 5)) none ce3_plane_map [5]))]))
  sNil))))))
theorem fn_plane_map_eq (a0 : D) : fn_plane_map [a0] = endD (sh_plane_map [.va a0, .no, .no, .no, .no, .no, .no]) := id rfl
abbrev fns_28 : List Fd := ⟨"plane_map", 1, none, fn_plane_map⟩ :: fns_27
def df_led_triple : Df := ⟨"led_triple", ["plane", "triple", "found", "row", "number", "part"], 2,
  (.cons (.own 2 (.lst .nil)) (.cons (.for [3] (.var 3) (.seq (.call 1 (.cons (.var 0) .nil))) (.cons (.app 2 (.bi .sum (.cons (.fr (.comp (.bin .mul (.var 4) (.var 5)) [4, 5] (.tup [4, 5]) (.zip (.var 3) (.var 1)) .no)) .nil))) .nil)) (.cons (.ret (.bi .tup (.cons (.var 2) .nil))) .nil)))⟩
def fn_led_triple : List D → RD := runD ⟨fns_28, cons, bis, hfns, rs, qs⟩ df_led_triple
def ce1_led_triple : Den :=
  (dBin mulD (dVar 4) (dVar 5))
def lb1_led_triple : SDen :=
  (sSeq (sApp 2 (dBi sumL [(dFr (fComp (iLs zipL [(dVar 3), (dVar 1)]) (Tg.st (.tup [4, 5])) none ce1_led_triple [4, 5]))]))
  sNil)
def sh_led_triple : SDen :=
  (sSeq (sOwn 2 (fLst []))
  (sSeq (sFor [3] (iSeq (dCall fn_rows_of [(dVar 0)])) (Tg.st (.var 3)) lb1_led_triple)
  (sSeq (sRet (dBi tupL [(dVar 2)]))
  sNil)))
theorem fn_led_triple_eq (a0 a1 : D) : fn_led_triple [a0, a1] = endD (sh_led_triple [.va a0, .va a1, .no, .no, .no, .no]) := id rfl
abbrev fns_29 : List Fd := ⟨"led_triple", 2, none, fn_led_triple⟩ :: fns_28
def df_led_scale : Df := ⟨"led_scale", ["plane", "told"], 2,
  (.cons (.ret (.call 10 (.cons (.call 0 (.cons (.var 0) (.cons (.idx (.var 1) (.int 0)) .nil))) (.cons (.call 0 (.cons (.var 0) (.cons (.idx (.var 1) (.int 1)) .nil))) .nil)))) .nil)⟩
def fn_led_scale : List D → RD := runD ⟨fns_29, cons, bis, hfns, rs, qs⟩ df_led_scale
def sh_led_scale : SDen :=
  (sSeq (sRet (dCall fn_scale [(dCall fn_led_triple [(dVar 0), (dBin idxD (dVar 1) (dCst (.int 0)))]), (dCall fn_led_triple [(dVar 0), (dBin idxD (dVar 1) (dCst (.int 1)))])]))
  sNil)
theorem fn_led_scale_eq (a0 a1 : D) : fn_led_scale [a0, a1] = endD (sh_led_scale [.va a0, .va a1]) := id rfl
abbrev fns_30 : List Fd := ⟨"led_scale", 2, none, fn_led_scale⟩ :: fns_29
def df_led_chart : Df := ⟨"led_chart", ["plane", "told", "first", "second", "third", "one"], 2,
  (.cons (.asg (.tup [2, 3, 4]) (.fr (.comp (.call 0 (.cons (.var 0) (.cons (.var 5) .nil))) [5] (.var 5) (.seq (.var 1)) .no))) (.cons (.ret (.call 7 (.cons (.var 2) (.cons (.var 3) (.cons (.var 4) .nil))))) .nil))⟩
def fn_led_chart : List D → RD := runD ⟨fns_30, cons, bis, hfns, rs, qs⟩ df_led_chart
def ce1_led_chart : Den :=
  (dCall fn_led_scale [(dVar 0), (dVar 5)])
def sh_led_chart : SDen :=
  (sSeq (sAsg (Tg.st (.tup [2, 3, 4])) (dFr (fComp (iSeq (dVar 1)) (Tg.st (.var 5)) none ce1_led_chart [5])))
  (sSeq (sRet (dCall fn_chart [(dVar 2), (dVar 3), (dVar 4)]))
  sNil))
theorem fn_led_chart_eq (a0 a1 : D) : fn_led_chart [a0, a1] = endD (sh_led_chart [.va a0, .va a1, .no, .no, .no, .no]) := id rfl
abbrev fns_31 : List Fd := ⟨"led_chart", 2, none, fn_led_chart⟩ :: fns_30
def df_third_of : Df := ⟨"third_of", ["scale", "value", "p", "q"], 2,
  (.cons (.asg (.tup [2, 3]) (.var 0)) (.cons (.ret (.bin .add (.bin .mul (.idx (.var 1) (.int 1)) (.idx (.var 2) (.int 2))) (.bin .mul (.idx (.var 1) (.int 0)) (.idx (.var 3) (.int 2))))) .nil))⟩
def fn_third_of : List D → RD := runD ⟨fns_31, cons, bis, hfns, rs, qs⟩ df_third_of
def sh_third_of : SDen :=
  (sSeq (sAsg (Tg.st (.tup [2, 3])) (dVar 0))
  (sSeq (sRet (dBin addD (dBin mulD (dBin idxD (dVar 1) (dCst (.int 1))) (dBin idxD (dVar 2) (dCst (.int 2)))) (dBin mulD (dBin idxD (dVar 1) (dCst (.int 0))) (dBin idxD (dVar 3) (dCst (.int 2))))))
  sNil))
theorem fn_third_of_eq (a0 a1 : D) : fn_third_of [a0, a1] = endD (sh_third_of [.va a0, .va a1, .no, .no]) := id rfl
abbrev fns_32 : List Fd := ⟨"third_of", 2, none, fn_third_of⟩ :: fns_31
def df_look_at_ranges : Df := ⟨"look_at_ranges", ["chart", "ranges", "which", "ends", "one", "other", "end"], 2,
  (.cons (.for [2, 3, 4, 5] (.tup [2, 3]) (.enum (.var 1)) (.cons (.asg (.tup [4, 5]) (.fr (.comp (.call 0 (.cons (.idx (.var 0) (.var 2)) (.cons (.var 6) .nil))) [6] (.var 6) (.seq (.var 3)) .no))) (.cons (.ifs (.cmp .le (.bin .mul (.var 4) (.var 5)) (.int 0)) (.cons .bad .nil) .nil) .nil))) .nil)⟩
def fn_look_at_ranges : List D → RD := runD ⟨fns_32, cons, bis, hfns, rs, qs⟩ df_look_at_ranges
def ce1_look_at_ranges : Den :=
  (dCall fn_third_of [(dBin idxD (dVar 0) (dVar 2)), (dVar 6)])
def lb1_look_at_ranges : SDen :=
  (sSeq (sAsg (Tg.st (.tup [4, 5])) (dFr (fComp (iSeq (dVar 3)) (Tg.st (.var 6)) none ce1_look_at_ranges [6])))
  (sSeq (sIf (dBin (COp.fn .le) (dBin mulD (dVar 4) (dVar 5)) (dCst (.int 0)))
  (sSeq sBad
  sNil)
  sNil)
  sNil))
def sh_look_at_ranges : SDen :=
  (sSeq (sFor [2, 3, 4, 5] (iLs enuL [(dVar 1)]) (Tg.st (.tup [2, 3])) lb1_look_at_ranges)
  sNil)
theorem fn_look_at_ranges_eq (a0 a1 : D) : fn_look_at_ranges [a0, a1] = endD (sh_look_at_ranges [.va a0, .va a1, .no, .no, .no, .no, .no]) := id rfl
abbrev fns_33 : List Fd := ⟨"look_at_ranges", 2, none, fn_look_at_ranges⟩ :: fns_32
def df_places_of : Df := ⟨"places_of", ["chart", "ranges", "at", "found", "scale", "ends", "end", "spot"], 3,
  (.cons (.own 3 (.lst .nil)) (.cons (.for [4, 5, 6, 7] (.tup [4, 5]) (.zip (.var 0) (.var 1)) (.cons (.for [6, 7] (.var 6) (.seq (.var 5)) (.cons (.asg (.var 7) (.call 13 (.cons (.var 4) (.cons (.var 6) .nil)))) (.cons (.app 3 (.call 29 (.cons (.idx (.var 7) (.var 2)) (.cons (.idx (.var 7) (.int 2)) .nil)))) .nil))) .nil)) (.cons (.ret (.var 3)) .nil)))⟩
def fn_places_of : List D → RD := runD ⟨fns_33, cons, bis, hfns, rs, qs⟩ df_places_of
def lb2_places_of : SDen :=
  (sSeq (sAsg (Tg.st (.var 7)) (dCall fn_mark [(dVar 4), (dVar 6)]))
  (sSeq (sApp 3 (dCall fn_fraction [(dBin idxD (dVar 7) (dVar 2)), (dBin idxD (dVar 7) (dCst (.int 2)))]))
  sNil))
def lb1_places_of : SDen :=
  (sSeq (sFor [6, 7] (iSeq (dVar 5)) (Tg.st (.var 6)) lb2_places_of)
  sNil)
def sh_places_of : SDen :=
  (sSeq (sOwn 3 (fLst []))
  (sSeq (sFor [4, 5, 6, 7] (iLs zipL [(dVar 0), (dVar 1)]) (Tg.st (.tup [4, 5])) lb1_places_of)
  (sSeq (sRet (dVar 3))
  sNil)))
theorem fn_places_of_eq (a0 a1 a2 : D) : fn_places_of [a0, a1, a2] = endD (sh_places_of [.va a0, .va a1, .va a2, .no, .no, .no, .no, .no]) := id rfl
abbrev fns_34 : List Fd := ⟨"places_of", 3, none, fn_places_of⟩ :: fns_33
def df_stretch_to : Df := ⟨"stretch_to", ["places", "size", "least", "most", "place", "by"], 2,
  (.cons (.asg (.var 2) (.idx (.var 0) (.int 0))) (.cons (.asg (.var 3) (.idx (.var 0) (.int 0))) (.cons (.for [4] (.var 4) (.seq (.var 0)) (.cons (.ifs (.call 26 (.cons (.var 4) (.cons (.var 2) .nil))) (.cons (.asg (.var 2) (.var 4)) .nil) .nil) (.cons (.ifs (.call 26 (.cons (.var 3) (.cons (.var 4) .nil))) (.cons (.asg (.var 3) (.var 4)) .nil) .nil) .nil))) (.cons (.asg (.var 5) (.tup (.cons (.int 1) (.cons (.int 1) .nil)))) (.cons (.ifs (.cmp .ne (.var 2) (.var 3)) (.cons (.asg (.var 5) (.call 27 (.cons (.tup (.cons (.var 1) (.cons (.int 1) .nil))) (.cons (.call 29 (.cons (.var 3) (.cons (.var 2) .nil))) .nil)))) .nil) .nil) (.cons (.ret (.tup (.cons (.var 5) (.cons (.call 29 (.cons (.tup (.cons (.int 0) (.cons (.int 1) .nil))) (.cons (.call 28 (.cons (.var 5) (.cons (.var 2) .nil))) .nil))) .nil)))) .nil))))))⟩
def fn_stretch_to : List D → RD := runD ⟨fns_34, cons, bis, hfns, rs, qs⟩ df_stretch_to
def lb1_stretch_to : SDen :=
  (sSeq (sIf (dCall fn_under [(dVar 4), (dVar 2)])
  (sSeq (sAsg (Tg.st (.var 2)) (dVar 4))
  sNil)
  sNil)
  (sSeq (sIf (dCall fn_under [(dVar 3), (dVar 4)])
  (sSeq (sAsg (Tg.st (.var 3)) (dVar 4))
  sNil)
  sNil)
  sNil))
def sh_stretch_to : SDen :=
  (sSeq (sAsg (Tg.st (.var 2)) (dBin idxD (dVar 0) (dCst (.int 0))))
  (sSeq (sAsg (Tg.st (.var 3)) (dBin idxD (dVar 0) (dCst (.int 0))))
  (sSeq (sFor [4] (iSeq (dVar 0)) (Tg.st (.var 4)) lb1_stretch_to)
  (sSeq (sAsg (Tg.st (.var 5)) (dTup [(dCst (.int 1)), (dCst (.int 1))]))
  (sSeq (sIf (dBin (COp.fn .ne) (dVar 2) (dVar 3))
  (sSeq (sAsg (Tg.st (.var 5)) (dCall fn_over [(dTup [(dVar 1), (dCst (.int 1))]), (dCall fn_minus [(dVar 3), (dVar 2)])]))
  sNil)
  sNil)
  (sSeq (sRet (dTup [(dVar 5), (dCall fn_minus [(dTup [(dCst (.int 0)), (dCst (.int 1))]), (dCall fn_times [(dVar 5), (dVar 2)])])]))
  sNil))))))
theorem fn_stretch_to_eq (a0 a1 : D) : fn_stretch_to [a0, a1] = endD (sh_stretch_to [.va a0, .va a1, .no, .no, .no, .no]) := id rfl
abbrev fns_35 : List Fd := ⟨"stretch_to", 2, none, fn_stretch_to⟩ :: fns_34
def df_fit : Df := ⟨"fit", ["chart", "ranges", "width", "height", "right", "upwards", "whole", "across", "up", "part"], 4,
  (.cons (.exp (.call 2 (.cons (.var 0) (.cons (.var 1) .nil)))) (.cons (.asg (.var 4) (.call 0 (.cons (.call 1 (.cons (.var 0) (.cons (.var 1) (.cons (.int 0) .nil)))) (.cons (.var 2) .nil)))) (.cons (.asg (.var 5) (.call 0 (.cons (.call 1 (.cons (.var 0) (.cons (.var 1) (.cons (.int 1) .nil)))) (.cons (.var 3) .nil)))) (.cons (.asg (.var 6) (.bin .mul (.bin .mul (.bin .mul (.idx (.idx (.var 4) (.int 0)) (.int 1)) (.idx (.idx (.var 4) (.int 1)) (.int 1))) (.idx (.idx (.var 5) (.int 0)) (.int 1))) (.idx (.idx (.var 5) (.int 1)) (.int 1)))) (.cons (.asg (.var 7) (.fr (.comp (.bin .mul (.idx (.var 9) (.int 0)) (.bin .fdiv (.var 6) (.idx (.var 9) (.int 1)))) [9] (.var 9) (.seq (.var 4)) .no))) (.cons (.asg (.var 8) (.fr (.comp (.bin .mul (.idx (.var 9) (.int 0)) (.bin .fdiv (.var 6) (.idx (.var 9) (.int 1)))) [9] (.var 9) (.seq (.var 5)) .no))) (.cons (.ret (.call 7 (.cons (.fr (.lst (.cons (.idx (.var 7) (.int 0)) (.cons (.int 0) (.cons (.idx (.var 7) (.int 1)) (.cons (.int 0) (.cons (.idx (.var 8) (.int 0)) (.cons (.idx (.var 8) (.int 1)) (.cons (.int 0) (.cons (.int 0) (.cons (.var 6) .nil))))))))))) .nil))) .nil)))))))⟩
def fn_fit : List D → RD := runD ⟨fns_35, cons, bis, hfns, rs, qs⟩ df_fit
def ce1_fit : Den :=
  (dBin mulD (dBin idxD (dVar 9) (dCst (.int 0))) (dBin fdivD (dVar 6) (dBin idxD (dVar 9) (dCst (.int 1)))))
def ce2_fit : Den :=
  (dBin mulD (dBin idxD (dVar 9) (dCst (.int 0))) (dBin fdivD (dVar 6) (dBin idxD (dVar 9) (dCst (.int 1)))))
def sh_fit : SDen :=
  (sSeq (sExp (dCall fn_look_at_ranges [(dVar 0), (dVar 1)]))
  (sSeq (sAsg (Tg.st (.var 4)) (dCall fn_stretch_to [(dCall fn_places_of [(dVar 0), (dVar 1), (dCst (.int 0))]), (dVar 2)]))
  (sSeq (sAsg (Tg.st (.var 5)) (dCall fn_stretch_to [(dCall fn_places_of [(dVar 0), (dVar 1), (dCst (.int 1))]), (dVar 3)]))
  (sSeq (sAsg (Tg.st (.var 6)) (dBin mulD (dBin mulD (dBin mulD (dBin idxD (dBin idxD (dVar 4) (dCst (.int 0))) (dCst (.int 1))) (dBin idxD (dBin idxD (dVar 4) (dCst (.int 1))) (dCst (.int 1)))) (dBin idxD (dBin idxD (dVar 5) (dCst (.int 0))) (dCst (.int 1)))) (dBin idxD (dBin idxD (dVar 5) (dCst (.int 1))) (dCst (.int 1)))))
  (sSeq (sAsg (Tg.st (.var 7)) (dFr (fComp (iSeq (dVar 4)) (Tg.st (.var 9)) none ce1_fit [9])))
  (sSeq (sAsg (Tg.st (.var 8)) (dFr (fComp (iSeq (dVar 5)) (Tg.st (.var 9)) none ce2_fit [9])))
  (sSeq (sRet (dCall fn_plane_map [(dFr (fLst [(dBin idxD (dVar 7) (dCst (.int 0))), (dCst (.int 0)), (dBin idxD (dVar 7) (dCst (.int 1))), (dCst (.int 0)), (dBin idxD (dVar 8) (dCst (.int 0))), (dBin idxD (dVar 8) (dCst (.int 1))), (dCst (.int 0)), (dCst (.int 0)), (dVar 6)]))]))
  sNil)))))))
theorem fn_fit_eq (a0 a1 a2 a3 : D) : fn_fit [a0, a1, a2, a3] = endD (sh_fit [.va a0, .va a1, .va a2, .va a3, .no, .no, .no, .no, .no, .no]) := id rfl
abbrev fns_36 : List Fd := ⟨"fit", 4, none, fn_fit⟩ :: fns_35
def df_fitted : Df := ⟨"fitted", ["chart", "ranges", "width", "height"], 4,
  (.cons (.ret (.call 5 (.cons (.call 0 (.cons (.var 0) (.cons (.var 1) (.cons (.var 2) (.cons (.var 3) .nil))))) (.cons (.var 0) .nil)))) .nil)⟩
def fn_fitted : List D → RD := runD ⟨fns_36, cons, bis, hfns, rs, qs⟩ df_fitted
def sh_fitted : SDen :=
  (sSeq (sRet (dCall fn_led_chart [(dCall fn_fit [(dVar 0), (dVar 1), (dVar 2), (dVar 3)]), (dVar 0)]))
  sNil)
theorem fn_fitted_eq (a0 a1 a2 a3 : D) : fn_fitted [a0, a1, a2, a3] = endD (sh_fitted [.va a0, .va a1, .va a2, .va a3]) := id rfl
abbrev fns_37 : List Fd := ⟨"fitted", 4, none, fn_fitted⟩ :: fns_36
def df__law_cell_at : Df := ⟨"_law_cell_at", ["_law_script", "_law_k"], 2,
  (.cons (.ifs (.cmp .lt (.var 1) (.bi .len (.cons (.var 0) .nil))) (.cons (.ret (.idx (.var 0) (.var 1))) .nil) .nil) (.cons (.ret (.int 0)) .nil))⟩
def fn__law_cell_at : List D → RD := runD ⟨fns_37, cons, bis, hfns, rs, qs⟩ df__law_cell_at
def sh__law_cell_at : SDen :=
  (sSeq (sIf (dBin (COp.fn .lt) (dVar 1) (dBi lenL [(dVar 0)]))
  (sSeq (sRet (dBin idxD (dVar 0) (dVar 1)))
  sNil)
  sNil)
  (sSeq (sRet (dCst (.int 0)))
  sNil))
theorem fn__law_cell_at_eq (a0 a1 : D) : fn__law_cell_at [a0, a1] = endD (sh__law_cell_at [.va a0, .va a1]) := id rfl
abbrev fns_38 : List Fd := ⟨"_law_cell_at", 2, none, fn__law_cell_at⟩ :: fns_37
def df__law_draws : Df := ⟨"_law_draws", ["_law_script", "_law_k", "_law_number", "_law_found", "_law_j"], 2,
  (.cons (.asg (.var 2) (.call 0 (.cons (.var 0) (.cons (.var 1) .nil)))) (.cons (.ifs (.cmp .eq (.bin .mod (.call 0 (.cons (.var 0) (.cons (.int 0) .nil))) (.int 2)) (.int 1)) (.cons (.asg (.var 2) (.bin .mul (.bin .add (.bin .add (.bin .mod (.var 2) (.int 1000003)) (.int 7)) (.var 1)) (.int 48271))) (.cons (.asg (.var 2) (.bin .mod (.bin .mul (.var 2) (.var 2)) (.int 2305843009213693951))) (.cons (.asg (.var 2) (.bin .mod (.bin .mul (.var 2) (.var 2)) (.int 2305843009213693951))) .nil))) .nil) (.cons (.own 3 (.lst .nil)) (.cons (.for [4] (.var 4) (.rng1 (.int 8)) (.cons (.app 3 (.bin .mod (.var 2) (.int 1000))) (.cons (.asg (.var 2) (.bin .fdiv (.var 2) (.int 1000))) .nil))) (.cons (.ret (.var 3)) .nil)))))⟩
def fn__law_draws : List D → RD := runD ⟨fns_38, cons, bis, hfns, rs, qs⟩ df__law_draws
def lb1__law_draws : SDen :=
  (sSeq (sApp 3 (dBin modD (dVar 2) (dCst (.int 1000))))
  (sSeq (sAsg (Tg.st (.var 2)) (dBin fdivD (dVar 2) (dCst (.int 1000))))
  sNil))
def sh__law_draws : SDen :=
  (sSeq (sAsg (Tg.st (.var 2)) (dCall fn__law_cell_at [(dVar 0), (dVar 1)]))
  (sSeq (sIf (dBin (COp.fn .eq) (dBin modD (dCall fn__law_cell_at [(dVar 0), (dCst (.int 0))]) (dCst (.int 2))) (dCst (.int 1)))
  (sSeq (sAsg (Tg.st (.var 2)) (dBin mulD (dBin addD (dBin addD (dBin modD (dVar 2) (dCst (.int 1000003))) (dCst (.int 7))) (dVar 1)) (dCst (.int 48271))))
  (sSeq (sAsg (Tg.st (.var 2)) (dBin modD (dBin mulD (dVar 2) (dVar 2)) (dCst (.int 2305843009213693951))))
  (sSeq (sAsg (Tg.st (.var 2)) (dBin modD (dBin mulD (dVar 2) (dVar 2)) (dCst (.int 2305843009213693951))))
  sNil)))
  sNil)
  (sSeq (sOwn 3 (fLst []))
  (sSeq (sFor [4] (iRng [(dCst (.int 8))]) (Tg.st (.var 4)) lb1__law_draws)
  (sSeq (sRet (dVar 3))
  sNil)))))
theorem fn__law_draws_eq (a0 a1 : D) : fn__law_draws [a0, a1] = endD (sh__law_draws [.va a0, .va a1, .no, .no, .no]) := id rfl
abbrev fns_39 : List Fd := ⟨"_law_draws", 2, none, fn__law_draws⟩ :: fns_38
def fuel__law_divisor : En → Nat := fun δ => match δ[1]? with | some (Sl.va (D.int b)) => b.natAbs + 1 | _ => 0
def df__law_divisor : Df := ⟨"_law_divisor", ["_law_one", "_law_other"], 2,
  (.cons (.whl [] fuel__law_divisor (.cmp .ne (.var 1) (.int 0)) (.cons (.par 0 1 (.var 1) (.bin .mod (.var 0) (.var 1))) .nil)) (.cons (.ret (.bi .abs (.cons (.var 0) .nil))) .nil))⟩
def fn__law_divisor : List D → RD := runD ⟨fns_39, cons, bis, hfns, rs, qs⟩ df__law_divisor
def lc1__law_divisor : Den :=
  (dBin (COp.fn .ne) (dVar 1) (dCst (.int 0)))
def lb1__law_divisor : SDen :=
  (sSeq (sPar 0 1 [(dVar 1), (dBin modD (dVar 0) (dVar 1))])
  sNil)
def sh__law_divisor : SDen :=
  (sSeq (sWhl [] fuel__law_divisor lc1__law_divisor lb1__law_divisor)
  (sSeq (sRet (dBi absL [(dVar 0)]))
  sNil))
theorem fn__law_divisor_eq (a0 a1 : D) : fn__law_divisor [a0, a1] = endD (sh__law_divisor [.va a0, .va a1]) := id rfl
abbrev fns_40 : List Fd := ⟨"_law_divisor", 2, none, fn__law_divisor⟩ :: fns_39
def df__law_lowest : Df := ⟨"_law_lowest", ["_law_top", "_law_bottom", "_law_share"], 2,
  (.cons (.asg (.var 2) (.call 0 (.cons (.var 0) (.cons (.var 1) .nil)))) (.cons (.ifs (.cmp .lt (.var 1) (.int 0)) (.cons (.asg (.var 2) (.bin .sub (.int 0) (.var 2))) .nil) .nil) (.cons (.ret (.tup (.cons (.bin .fdiv (.var 0) (.var 2)) (.cons (.bin .fdiv (.var 1) (.var 2)) .nil)))) .nil)))⟩
def fn__law_lowest : List D → RD := runD ⟨fns_40, cons, bis, hfns, rs, qs⟩ df__law_lowest
def sh__law_lowest : SDen :=
  (sSeq (sAsg (Tg.st (.var 2)) (dCall fn__law_divisor [(dVar 0), (dVar 1)]))
  (sSeq (sIf (dBin (COp.fn .lt) (dVar 1) (dCst (.int 0)))
  (sSeq (sAsg (Tg.st (.var 2)) (dBin subD (dCst (.int 0)) (dVar 2)))
  sNil)
  sNil)
  (sSeq (sRet (dTup [(dBin fdivD (dVar 0) (dVar 2)), (dBin fdivD (dVar 1) (dVar 2))]))
  sNil)))
theorem fn__law_lowest_eq (a0 a1 : D) : fn__law_lowest [a0, a1] = endD (sh__law_lowest [.va a0, .va a1, .no]) := id rfl
abbrev fns_41 : List Fd := ⟨"_law_lowest", 2, none, fn__law_lowest⟩ :: fns_40
def df__law_plus : Df := ⟨"_law_plus", ["_law_one", "_law_other"], 2,
  (.cons (.ret (.call 0 (.cons (.bin .add (.bin .mul (.idx (.var 0) (.int 0)) (.idx (.var 1) (.int 1))) (.bin .mul (.idx (.var 1) (.int 0)) (.idx (.var 0) (.int 1)))) (.cons (.bin .mul (.idx (.var 0) (.int 1)) (.idx (.var 1) (.int 1))) .nil)))) .nil)⟩
def fn__law_plus : List D → RD := runD ⟨fns_41, cons, bis, hfns, rs, qs⟩ df__law_plus
def sh__law_plus : SDen :=
  (sSeq (sRet (dCall fn__law_lowest [(dBin addD (dBin mulD (dBin idxD (dVar 0) (dCst (.int 0))) (dBin idxD (dVar 1) (dCst (.int 1)))) (dBin mulD (dBin idxD (dVar 1) (dCst (.int 0))) (dBin idxD (dVar 0) (dCst (.int 1))))), (dBin mulD (dBin idxD (dVar 0) (dCst (.int 1))) (dBin idxD (dVar 1) (dCst (.int 1))))]))
  sNil)
theorem fn__law_plus_eq (a0 a1 : D) : fn__law_plus [a0, a1] = endD (sh__law_plus [.va a0, .va a1]) := id rfl
abbrev fns_42 : List Fd := ⟨"_law_plus", 2, none, fn__law_plus⟩ :: fns_41
def df__law_times : Df := ⟨"_law_times", ["_law_one", "_law_other"], 2,
  (.cons (.ret (.call 1 (.cons (.bin .mul (.idx (.var 0) (.int 0)) (.idx (.var 1) (.int 0))) (.cons (.bin .mul (.idx (.var 0) (.int 1)) (.idx (.var 1) (.int 1))) .nil)))) .nil)⟩
def fn__law_times : List D → RD := runD ⟨fns_42, cons, bis, hfns, rs, qs⟩ df__law_times
def sh__law_times : SDen :=
  (sSeq (sRet (dCall fn__law_lowest [(dBin mulD (dBin idxD (dVar 0) (dCst (.int 0))) (dBin idxD (dVar 1) (dCst (.int 0)))), (dBin mulD (dBin idxD (dVar 0) (dCst (.int 1))) (dBin idxD (dVar 1) (dCst (.int 1))))]))
  sNil)
theorem fn__law_times_eq (a0 a1 : D) : fn__law_times [a0, a1] = endD (sh__law_times [.va a0, .va a1]) := id rfl
abbrev fns_43 : List Fd := ⟨"_law_times", 2, none, fn__law_times⟩ :: fns_42
def df__law_fraction : Df := ⟨"_law_fraction", ["_law_draw", "_law_other"], 2,
  (.cons (.ret (.call 2 (.cons (.bin .sub (.bin .mod (.var 0) (.int 13)) (.int 6)) (.cons (.bin .add (.int 1) (.bin .mod (.var 1) (.int 4))) .nil)))) .nil)⟩
def fn__law_fraction : List D → RD := runD ⟨fns_43, cons, bis, hfns, rs, qs⟩ df__law_fraction
def sh__law_fraction : SDen :=
  (sSeq (sRet (dCall fn__law_lowest [(dBin subD (dBin modD (dVar 0) (dCst (.int 13))) (dCst (.int 6))), (dBin addD (dCst (.int 1)) (dBin modD (dVar 1) (dCst (.int 4))))]))
  sNil)
theorem fn__law_fraction_eq (a0 a1 : D) : fn__law_fraction [a0, a1] = endD (sh__law_fraction [.va a0, .va a1]) := id rfl
abbrev fns_44 : List Fd := ⟨"_law_fraction", 2, none, fn__law_fraction⟩ :: fns_43
def df__law_triple : Df := ⟨"_law_triple", ["_law_draw"], 1,
  (.cons (.ret (.tup (.cons (.bin .sub (.bin .mod (.var 0) (.int 9)) (.int 4)) (.cons (.bin .sub (.bin .mod (.bin .fdiv (.var 0) (.int 9)) (.int 9)) (.int 4)) (.cons (.bin .sub (.bin .mod (.bin .fdiv (.var 0) (.int 81)) (.int 9)) (.int 4)) .nil))))) .nil)⟩
def fn__law_triple : List D → RD := runD ⟨fns_44, cons, bis, hfns, rs, qs⟩ df__law_triple
def sh__law_triple : SDen :=
  (sSeq (sRet (dTup [(dBin subD (dBin modD (dVar 0) (dCst (.int 9))) (dCst (.int 4))), (dBin subD (dBin modD (dBin fdivD (dVar 0) (dCst (.int 9))) (dCst (.int 9))) (dCst (.int 4))), (dBin subD (dBin modD (dBin fdivD (dVar 0) (dCst (.int 81))) (dCst (.int 9))) (dCst (.int 4)))]))
  sNil)
theorem fn__law_triple_eq (a0 : D) : fn__law_triple [a0] = endD (sh__law_triple [.va a0]) := id rfl
abbrev fns_45 : List Fd := ⟨"_law_triple", 1, none, fn__law_triple⟩ :: fns_44
def df__law_crossed : Df := ⟨"_law_crossed", ["_law_p", "_law_q"], 2,
  (.cons (.ret (.tup (.cons (.bin .sub (.bin .mul (.idx (.var 0) (.int 1)) (.idx (.var 1) (.int 2))) (.bin .mul (.idx (.var 0) (.int 2)) (.idx (.var 1) (.int 1)))) (.cons (.bin .sub (.bin .mul (.idx (.var 0) (.int 2)) (.idx (.var 1) (.int 0))) (.bin .mul (.idx (.var 0) (.int 0)) (.idx (.var 1) (.int 2)))) (.cons (.bin .sub (.bin .mul (.idx (.var 0) (.int 0)) (.idx (.var 1) (.int 1))) (.bin .mul (.idx (.var 0) (.int 1)) (.idx (.var 1) (.int 0)))) .nil))))) .nil)⟩
def fn__law_crossed : List D → RD := runD ⟨fns_45, cons, bis, hfns, rs, qs⟩ df__law_crossed
def sh__law_crossed : SDen :=
  (sSeq (sRet (dTup [(dBin subD (dBin mulD (dBin idxD (dVar 0) (dCst (.int 1))) (dBin idxD (dVar 1) (dCst (.int 2)))) (dBin mulD (dBin idxD (dVar 0) (dCst (.int 2))) (dBin idxD (dVar 1) (dCst (.int 1))))), (dBin subD (dBin mulD (dBin idxD (dVar 0) (dCst (.int 2))) (dBin idxD (dVar 1) (dCst (.int 0)))) (dBin mulD (dBin idxD (dVar 0) (dCst (.int 0))) (dBin idxD (dVar 1) (dCst (.int 2))))), (dBin subD (dBin mulD (dBin idxD (dVar 0) (dCst (.int 0))) (dBin idxD (dVar 1) (dCst (.int 1)))) (dBin mulD (dBin idxD (dVar 0) (dCst (.int 1))) (dBin idxD (dVar 1) (dCst (.int 0)))))]))
  sNil)
theorem fn__law_crossed_eq (a0 a1 : D) : fn__law_crossed [a0, a1] = endD (sh__law_crossed [.va a0, .va a1]) := id rfl
abbrev fns_46 : List Fd := ⟨"_law_crossed", 2, none, fn__law_crossed⟩ :: fns_45
def df__law_scale : Df := ⟨"_law_scale", ["_law_draw", "_law_other", "_law_way", "_law_p", "_law_q"], 3,
  (.cons (.asg (.var 3) (.call 1 (.cons (.var 0) .nil))) (.cons (.asg (.var 4) (.call 1 (.cons (.var 1) .nil))) (.cons (.ifs (.cmp .gt (.bin .mod (.var 2) (.int 3)) (.int 0)) (.cons (.asg (.var 3) (.tup (.cons (.idx (.var 3) (.int 0)) (.cons (.idx (.var 3) (.int 1)) (.cons (.bin .add (.int 1) (.bi .abs (.cons (.idx (.var 3) (.int 2)) .nil))) .nil))))) (.cons (.asg (.var 4) (.tup (.cons (.idx (.var 4) (.int 0)) (.cons (.idx (.var 4) (.int 1)) (.cons (.idx (.fr (.lst (.cons (.int 0) (.cons (.bi .abs (.cons (.idx (.var 4) (.int 2)) .nil)) .nil)))) (.bin .mod (.var 2) (.int 2))) .nil))))) .nil)) .nil) (.cons (.ifs (.cmp .eq (.call 0 (.cons (.var 3) (.cons (.var 4) .nil))) (.tup (.cons (.int 0) (.cons (.int 0) (.cons (.int 0) .nil))))) (.cons (.ret (.call 27 (.cons (.tup (.cons (.bin .mod (.var 0) (.int 5)) (.cons (.int 0) (.cons (.int 1) .nil)))) (.cons (.tup (.cons (.bin .mod (.var 1) (.int 3)) (.cons (.int 1) (.cons (.int 0) .nil)))) .nil)))) .nil) .nil) (.cons (.ret (.call 27 (.cons (.var 3) (.cons (.var 4) .nil)))) .nil)))))⟩
def fn__law_scale : List D → RD := runD ⟨fns_46, cons, bis, hfns, rs, qs⟩ df__law_scale
def sh__law_scale : SDen :=
  (sSeq (sAsg (Tg.st (.var 3)) (dCall fn__law_triple [(dVar 0)]))
  (sSeq (sAsg (Tg.st (.var 4)) (dCall fn__law_triple [(dVar 1)]))
  (sSeq (sIf (dBin (COp.fn .gt) (dBin modD (dVar 2) (dCst (.int 3))) (dCst (.int 0)))
  (sSeq (sAsg (Tg.st (.var 3)) (dTup [(dBin idxD (dVar 3) (dCst (.int 0))), (dBin idxD (dVar 3) (dCst (.int 1))), (dBin addD (dCst (.int 1)) (dBi absL [(dBin idxD (dVar 3) (dCst (.int 2)))]))]))
  (sSeq (sAsg (Tg.st (.var 4)) (dTup [(dBin idxD (dVar 4) (dCst (.int 0))), (dBin idxD (dVar 4) (dCst (.int 1))), (dBin idxD (dFr (fLst [(dCst (.int 0)), (dBi absL [(dBin idxD (dVar 4) (dCst (.int 2)))])])) (dBin modD (dVar 2) (dCst (.int 2))))]))
  sNil))
  sNil)
  (sSeq (sIf (dBin (COp.fn .eq) (dCall fn__law_crossed [(dVar 3), (dVar 4)]) (dTup [(dCst (.int 0)), (dCst (.int 0)), (dCst (.int 0))]))
  (sSeq (sRet (dCall fn_scale [(dTup [(dBin modD (dVar 0) (dCst (.int 5))), (dCst (.int 0)), (dCst (.int 1))]), (dTup [(dBin modD (dVar 1) (dCst (.int 3))), (dCst (.int 1)), (dCst (.int 0))])]))
  sNil)
  sNil)
  (sSeq (sRet (dCall fn_scale [(dVar 3), (dVar 4)]))
  sNil)))))
theorem fn__law_scale_eq (a0 a1 a2 : D) : fn__law_scale [a0, a1, a2] = endD (sh__law_scale [.va a0, .va a1, .va a2, .no, .no]) := id rfl
abbrev fns_47 : List Fd := ⟨"_law_scale", 3, none, fn__law_scale⟩ :: fns_46
def df__law_chart : Df := ⟨"_law_chart", ["_law_script", "_law_k", "_law_draws_here", "_law_scales", "_law_lines", "_law_j", "_law_one"], 2,
  (.cons (.asg (.var 2) (.call 8 (.cons (.var 0) (.cons (.var 1) .nil)))) (.cons (.asg (.var 3) (.fr (.comp (.call 0 (.cons (.idx (.var 2) (.bin .mul (.int 2) (.var 5))) (.cons (.idx (.var 2) (.bin .add (.bin .mul (.int 2) (.var 5)) (.int 1))) (.cons (.bin .fdiv (.idx (.var 2) (.int 6)) (.bin .add (.var 5) (.int 1))) .nil)))) [5] (.var 5) (.rng1 (.int 3)) .no))) (.cons (.asg (.var 4) (.fr (.comp (.call 26 (.cons (.var 6) .nil)) [6] (.var 6) (.seq (.var 3)) .no))) (.cons (.ifs (.and (.cons (.cmp .eq (.idx (.var 4) (.int 0)) (.idx (.var 4) (.int 1))) (.cons (.cmp .eq (.idx (.var 4) (.int 1)) (.idx (.var 4) (.int 2))) .nil))) (.cons (.ret (.call 22 (.cons (.idx (.fr (.lst (.cons (.str "plus") (.cons (.str "times") (.cons (.str "share") .nil))))) (.bin .mod (.idx (.var 2) (.int 7)) (.int 3))) .nil))) .nil) .nil) (.cons (.ifs (.cmp .eq (.bin .mod (.idx (.var 2) (.int 7)) (.int 4)) (.int 3)) (.cons (.ret (.call 22 (.cons (.idx (.fr (.lst (.cons (.str "plus") (.cons (.str "times") (.cons (.str "share") .nil))))) (.bin .mod (.bin .fdiv (.idx (.var 2) (.int 7)) (.int 4)) (.int 3))) .nil))) .nil) .nil) (.cons (.ret (.call 24 (.cons (.idx (.var 3) (.int 0)) (.cons (.idx (.var 3) (.int 1)) (.cons (.idx (.var 3) (.int 2)) .nil))))) .nil))))))⟩
def fn__law_chart : List D → RD := runD ⟨fns_47, cons, bis, hfns, rs, qs⟩ df__law_chart
def ce1__law_chart : Den :=
  (dCall fn__law_scale [(dBin idxD (dVar 2) (dBin mulD (dCst (.int 2)) (dVar 5))), (dBin idxD (dVar 2) (dBin addD (dBin mulD (dCst (.int 2)) (dVar 5)) (dCst (.int 1)))), (dBin fdivD (dBin idxD (dVar 2) (dCst (.int 6))) (dBin addD (dVar 5) (dCst (.int 1))))])
def ce2__law_chart : Den :=
  (dCall fn_line_of [(dVar 6)])
def sh__law_chart : SDen :=
  (sSeq (sAsg (Tg.st (.var 2)) (dCall fn__law_draws [(dVar 0), (dVar 1)]))
  (sSeq (sAsg (Tg.st (.var 3)) (dFr (fComp (iRng [(dCst (.int 3))]) (Tg.st (.var 5)) none ce1__law_chart [5])))
  (sSeq (sAsg (Tg.st (.var 4)) (dFr (fComp (iSeq (dVar 3)) (Tg.st (.var 6)) none ce2__law_chart [6])))
  (sSeq (sIf (dAnds [(dBin (COp.fn .eq) (dBin idxD (dVar 4) (dCst (.int 0))) (dBin idxD (dVar 4) (dCst (.int 1)))), (dBin (COp.fn .eq) (dBin idxD (dVar 4) (dCst (.int 1))) (dBin idxD (dVar 4) (dCst (.int 2))))])
  (sSeq (sRet (dCall fn_plain [(dBin idxD (dFr (fLst [(dCst (.str "plus")), (dCst (.str "times")), (dCst (.str "share"))])) (dBin modD (dBin idxD (dVar 2) (dCst (.int 7))) (dCst (.int 3))))]))
  sNil)
  sNil)
  (sSeq (sIf (dBin (COp.fn .eq) (dBin modD (dBin idxD (dVar 2) (dCst (.int 7))) (dCst (.int 4))) (dCst (.int 3)))
  (sSeq (sRet (dCall fn_plain [(dBin idxD (dFr (fLst [(dCst (.str "plus")), (dCst (.str "times")), (dCst (.str "share"))])) (dBin modD (dBin fdivD (dBin idxD (dVar 2) (dCst (.int 7))) (dCst (.int 4))) (dCst (.int 3))))]))
  sNil)
  sNil)
  (sSeq (sRet (dCall fn_chart [(dBin idxD (dVar 3) (dCst (.int 0))), (dBin idxD (dVar 3) (dCst (.int 1))), (dBin idxD (dVar 3) (dCst (.int 2)))]))
  sNil))))))
theorem fn__law_chart_eq (a0 a1 : D) : fn__law_chart [a0, a1] = endD (sh__law_chart [.va a0, .va a1, .no, .no, .no, .no, .no]) := id rfl
abbrev fns_48 : List Fd := ⟨"_law_chart", 2, none, fn__law_chart⟩ :: fns_47
def df__law_ranges : Df := ⟨"_law_ranges", ["_law_script", "_law_k", "_law_draws_here", "_law_found", "_law_j", "_law_low", "_law_top"], 2,
  (.cons (.asg (.var 2) (.call 9 (.cons (.var 0) (.cons (.var 1) .nil)))) (.cons (.own 3 (.lst .nil)) (.cons (.for [4, 5, 6] (.var 4) (.rng1 (.int 3)) (.cons (.asg (.var 5) (.call 4 (.cons (.idx (.var 2) (.bin .mul (.int 2) (.var 4))) (.cons (.bin .fdiv (.idx (.var 2) (.bin .mul (.int 2) (.var 4))) (.int 13)) .nil)))) (.cons (.asg (.var 5) (.call 6 (.cons (.var 5) (.cons (.tup (.cons (.idx (.fr (.lst (.cons (.int 0) (.cons (.int 0) (.cons (.int 200) (.cons (.bin .sub (.int 0) (.bin .pow (.int 10) (.int 6))) .nil)))))) (.bin .mod (.idx (.var 2) (.int 6)) (.int 4))) (.cons (.int 1) .nil))) .nil)))) (.cons (.asg (.var 6) (.bin .mul (.bin .add (.int 1) (.bin .mod (.idx (.var 2) (.bin .add (.bin .mul (.int 2) (.var 4)) (.int 1))) (.int 20))) (.idx (.fr (.lst (.cons (.int 1) (.cons (.int 1) (.cons (.int 100) .nil))))) (.bin .mod (.bin .fdiv (.idx (.var 2) (.int 6)) (.int 4)) (.int 3))))) (.cons (.app 3 (.tup (.cons (.var 5) (.cons (.call 6 (.cons (.var 5) (.cons (.call 7 (.cons (.var 6) (.cons (.bin .add (.int 1) (.bin .mod (.bin .fdiv (.idx (.var 2) (.bin .add (.bin .mul (.int 2) (.var 4)) (.int 1))) (.int 20)) (.int 4))) .nil))) .nil))) .nil)))) .nil))))) (.cons (.ret (.var 3)) .nil))))⟩
def fn__law_ranges : List D → RD := runD ⟨fns_48, cons, bis, hfns, rs, qs⟩ df__law_ranges
def lb1__law_ranges : SDen :=
  (sSeq (sAsg (Tg.st (.var 5)) (dCall fn__law_fraction [(dBin idxD (dVar 2) (dBin mulD (dCst (.int 2)) (dVar 4))), (dBin fdivD (dBin idxD (dVar 2) (dBin mulD (dCst (.int 2)) (dVar 4))) (dCst (.int 13)))]))
  (sSeq (sAsg (Tg.st (.var 5)) (dCall fn__law_plus [(dVar 5), (dTup [(dBin idxD (dFr (fLst [(dCst (.int 0)), (dCst (.int 0)), (dCst (.int 200)), (dBin subD (dCst (.int 0)) (dBin powD (dCst (.int 10)) (dCst (.int 6))))])) (dBin modD (dBin idxD (dVar 2) (dCst (.int 6))) (dCst (.int 4)))), (dCst (.int 1))])]))
  (sSeq (sAsg (Tg.st (.var 6)) (dBin mulD (dBin addD (dCst (.int 1)) (dBin modD (dBin idxD (dVar 2) (dBin addD (dBin mulD (dCst (.int 2)) (dVar 4)) (dCst (.int 1)))) (dCst (.int 20)))) (dBin idxD (dFr (fLst [(dCst (.int 1)), (dCst (.int 1)), (dCst (.int 100))])) (dBin modD (dBin fdivD (dBin idxD (dVar 2) (dCst (.int 6))) (dCst (.int 4))) (dCst (.int 3))))))
  (sSeq (sApp 3 (dTup [(dVar 5), (dCall fn__law_plus [(dVar 5), (dCall fn__law_lowest [(dVar 6), (dBin addD (dCst (.int 1)) (dBin modD (dBin fdivD (dBin idxD (dVar 2) (dBin addD (dBin mulD (dCst (.int 2)) (dVar 4)) (dCst (.int 1)))) (dCst (.int 20))) (dCst (.int 4))))])])]))
  sNil))))
def sh__law_ranges : SDen :=
  (sSeq (sAsg (Tg.st (.var 2)) (dCall fn__law_draws [(dVar 0), (dVar 1)]))
  (sSeq (sOwn 3 (fLst []))
  (sSeq (sFor [4, 5, 6] (iRng [(dCst (.int 3))]) (Tg.st (.var 4)) lb1__law_ranges)
  (sSeq (sRet (dVar 3))
  sNil))))
theorem fn__law_ranges_eq (a0 a1 : D) : fn__law_ranges [a0, a1] = endD (sh__law_ranges [.va a0, .va a1, .no, .no, .no, .no, .no]) := id rfl
abbrev fns_49 : List Fd := ⟨"_law_ranges", 2, none, fn__law_ranges⟩ :: fns_48
def df__law_third : Df := ⟨"_law_third", ["_law_one", "_law_amount"], 2,
  (.cons (.ret (.bin .add (.bin .mul (.idx (.var 1) (.int 1)) (.idx (.idx (.var 0) (.int 0)) (.int 2))) (.bin .mul (.idx (.var 1) (.int 0)) (.idx (.idx (.var 0) (.int 1)) (.int 2))))) .nil)⟩
def fn__law_third : List D → RD := runD ⟨fns_49, cons, bis, hfns, rs, qs⟩ df__law_third
def sh__law_third : SDen :=
  (sSeq (sRet (dBin addD (dBin mulD (dBin idxD (dVar 1) (dCst (.int 1))) (dBin idxD (dBin idxD (dVar 0) (dCst (.int 0))) (dCst (.int 2)))) (dBin mulD (dBin idxD (dVar 1) (dCst (.int 0))) (dBin idxD (dBin idxD (dVar 0) (dCst (.int 1))) (dCst (.int 2))))))
  sNil)
theorem fn__law_third_eq (a0 a1 : D) : fn__law_third [a0, a1] = endD (sh__law_third [.va a0, .va a1]) := id rfl
abbrev fns_50 : List Fd := ⟨"_law_third", 2, none, fn__law_third⟩ :: fns_49
def df__law_which : Df := ⟨"_law_which", ["_law_found", "_law_ranges_here", "_law_j", "_law_low", "_law_high", "_law_end"], 2,
  (.cons (.for [2, 3, 4] (.var 2) (.rng1 (.int 3)) (.cons (.asg (.tup [3, 4]) (.fr (.comp (.call 0 (.cons (.idx (.var 0) (.var 2)) (.cons (.var 5) .nil))) [5] (.var 5) (.seq (.idx (.var 1) (.var 2))) .no))) (.cons (.ifs (.not (.or (.cons (.and (.cons (.cmp .gt (.var 3) (.int 0)) (.cons (.cmp .gt (.var 4) (.int 0)) .nil))) (.cons (.and (.cons (.cmp .lt (.var 3) (.int 0)) (.cons (.cmp .lt (.var 4) (.int 0)) .nil))) .nil)))) (.cons (.ret (.var 2)) .nil) .nil) .nil))) (.cons (.ret .non) .nil))⟩
def fn__law_which : List D → RD := runD ⟨fns_50, cons, bis, hfns, rs, qs⟩ df__law_which
def ce1__law_which : Den :=
  (dCall fn__law_third [(dBin idxD (dVar 0) (dVar 2)), (dVar 5)])
def lb1__law_which : SDen :=
  (sSeq (sAsg (Tg.st (.tup [3, 4])) (dFr (fComp (iSeq (dBin idxD (dVar 1) (dVar 2))) (Tg.st (.var 5)) none ce1__law_which [5])))
  (sSeq (sIf (dUn notD (dOrs [(dAnds [(dBin (COp.fn .gt) (dVar 3) (dCst (.int 0))), (dBin (COp.fn .gt) (dVar 4) (dCst (.int 0)))]), (dAnds [(dBin (COp.fn .lt) (dVar 3) (dCst (.int 0))), (dBin (COp.fn .lt) (dVar 4) (dCst (.int 0)))])]))
  (sSeq (sRet (dVar 2))
  sNil)
  sNil)
  sNil))
def sh__law_which : SDen :=
  (sSeq (sFor [2, 3, 4] (iRng [(dCst (.int 3))]) (Tg.st (.var 2)) lb1__law_which)
  (sSeq (sRet (dCst .non))
  sNil))
theorem fn__law_which_eq (a0 a1 : D) : fn__law_which [a0, a1] = endD (sh__law_which [.va a0, .va a1, .no, .no, .no, .no]) := id rfl
abbrev fns_51 : List Fd := ⟨"_law_which", 2, none, fn__law_which⟩ :: fns_50
def df__law_between : Df := ⟨"_law_between", ["_law_ends", "_law_part", "_law_across", "_law_low", "_law_high"], 2,
  (.cons (.asg (.tup [3, 4]) (.var 0)) (.cons (.asg (.var 2) (.call 9 (.cons (.var 4) (.cons (.tup (.cons (.bin .sub (.int 0) (.idx (.var 3) (.int 0))) (.cons (.idx (.var 3) (.int 1)) .nil))) .nil)))) (.cons (.ret (.call 9 (.cons (.var 3) (.cons (.call 8 (.cons (.var 2) (.cons (.call 10 (.cons (.var 1) (.cons (.int 1000) .nil))) .nil))) .nil)))) .nil)))⟩
def fn__law_between : List D → RD := runD ⟨fns_51, cons, bis, hfns, rs, qs⟩ df__law_between
def sh__law_between : SDen :=
  (sSeq (sAsg (Tg.st (.tup [3, 4])) (dVar 0))
  (sSeq (sAsg (Tg.st (.var 2)) (dCall fn__law_plus [(dVar 4), (dTup [(dBin subD (dCst (.int 0)) (dBin idxD (dVar 3) (dCst (.int 0)))), (dBin idxD (dVar 3) (dCst (.int 1)))])]))
  (sSeq (sRet (dCall fn__law_plus [(dVar 3), (dCall fn__law_times [(dVar 2), (dCall fn__law_lowest [(dVar 1), (dCst (.int 1000))])])]))
  sNil)))
theorem fn__law_between_eq (a0 a1 : D) : fn__law_between [a0, a1] = endD (sh__law_between [.va a0, .va a1, .no, .no, .no]) := id rfl
abbrev fns_52 : List Fd := ⟨"_law_between", 2, none, fn__law_between⟩ :: fns_51
def df__law_on_the_sheet : Df := ⟨"_law_on_the_sheet", ["_law_dot", "_law_width", "_law_height"], 3,
  (.cons (.ifs (.cmp .le (.idx (.var 0) (.int 2)) (.int 0)) (.cons (.ret (.bl false)) .nil) .nil) (.cons (.ret (.and (.cons (.chn .le .le (.int 0) (.idx (.var 0) (.int 0)) (.bin .mul (.var 1) (.idx (.var 0) (.int 2)))) (.cons (.chn .le .le (.int 0) (.idx (.var 0) (.int 1)) (.bin .mul (.var 2) (.idx (.var 0) (.int 2)))) .nil)))) .nil))⟩
def fn__law_on_the_sheet : List D → RD := runD ⟨fns_52, cons, bis, hfns, rs, qs⟩ df__law_on_the_sheet
def sh__law_on_the_sheet : SDen :=
  (sSeq (sIf (dBin (COp.fn .le) (dBin idxD (dVar 0) (dCst (.int 2))) (dCst (.int 0)))
  (sSeq (sRet (dCst (.bl false)))
  sNil)
  sNil)
  (sSeq (sRet (dAnds [(dChn (COp.fn .le) (COp.fn .le) (dCst (.int 0)) (dBin idxD (dVar 0) (dCst (.int 0))) (dBin mulD (dVar 1) (dBin idxD (dVar 0) (dCst (.int 2))))), (dChn (COp.fn .le) (COp.fn .le) (dCst (.int 0)) (dBin idxD (dVar 0) (dCst (.int 1))) (dBin mulD (dVar 2) (dBin idxD (dVar 0) (dCst (.int 2)))))]))
  sNil))
theorem fn__law_on_the_sheet_eq (a0 a1 a2 : D) : fn__law_on_the_sheet [a0, a1, a2] = endD (sh__law_on_the_sheet [.va a0, .va a1, .va a2]) := id rfl
abbrev fns_53 : List Fd := ⟨"_law_on_the_sheet", 3, none, fn__law_on_the_sheet⟩ :: fns_52
def df__law_borders : Df := ⟨"_law_borders", ["_law_spots", "_law_at", "_law_size", "_law_some", "_law_dot", "_law_one"], 3,
  (.cons (.asg (.var 3) (.fr (.comp (.call 12 (.cons (.idx (.var 4) (.var 1)) (.cons (.idx (.var 4) (.int 2)) .nil))) [4] (.var 4) (.seq (.var 0)) .no))) (.cons (.ifs (.cmp .eq (.fr (.comp (.var 5) [5] (.var 5) (.seq (.var 3)) (.so (.cmp .ne (.var 5) (.tup (.cons (.int 0) (.cons (.int 1) .nil))))))) (.fr (.lst .nil))) (.cons (.ret (.bl true)) .nil) .nil) (.cons (.ret (.and (.cons (.cmp .isin (.tup (.cons (.int 0) (.cons (.int 1) .nil))) (.var 3)) (.cons (.cmp .isin (.tup (.cons (.var 2) (.cons (.int 1) .nil))) (.var 3)) .nil)))) .nil)))⟩
def fn__law_borders : List D → RD := runD ⟨fns_53, cons, bis, hfns, rs, qs⟩ df__law_borders
def ce1__law_borders : Den :=
  (dCall fn__law_lowest [(dBin idxD (dVar 4) (dVar 1)), (dBin idxD (dVar 4) (dCst (.int 2)))])
def ct1__law_borders : Den :=
  (dBin (COp.fn .ne) (dVar 5) (dTup [(dCst (.int 0)), (dCst (.int 1))]))
def ce2__law_borders : Den :=
  (dVar 5)
def sh__law_borders : SDen :=
  (sSeq (sAsg (Tg.st (.var 3)) (dFr (fComp (iSeq (dVar 0)) (Tg.st (.var 4)) none ce1__law_borders [4])))
  (sSeq (sIf (dBin (COp.fn .eq) (dFr (fComp (iSeq (dVar 3)) (Tg.st (.var 5)) (some ct1__law_borders) ce2__law_borders [5])) (dFr (fLst [])))
  (sSeq (sRet (dCst (.bl true)))
  sNil)
  sNil)
  (sSeq (sRet (dAnds [(dBin (COp.fn .isin) (dTup [(dCst (.int 0)), (dCst (.int 1))]) (dVar 3)), (dBin (COp.fn .isin) (dTup [(dVar 2), (dCst (.int 1))]) (dVar 3))]))
  sNil)))
theorem fn__law_borders_eq (a0 a1 a2 : D) : fn__law_borders [a0, a1, a2] = endD (sh__law_borders [.va a0, .va a1, .va a2, .no, .no, .no]) := id rfl
abbrev fns_54 : List Fd := ⟨"_law_borders", 3, none, fn__law_borders⟩ :: fns_53
def df__law_good : Df := ⟨"_law_good", ["_law_found", "_law_ranges_here", "_law_draws_here", "_law_width", "_law_height", "_law_there", "_law_spots", "_law_j", "_law_draw", "_law_dot", "_law_end"], 5,
  (.cons (.asg (.var 5) (.call 17 (.cons (.var 0) (.cons (.var 1) (.cons (.var 3) (.cons (.var 4) .nil)))))) (.cons (.ifs (.cmp .ne (.call 30 (.cons (.var 5) .nil)) (.call 30 (.cons (.var 0) .nil))) (.cons (.ret (.bl false)) .nil) .nil) (.cons (.asg (.var 6) (.fr (.lst .nil))) (.cons (.for [7, 8, 9] (.var 7) (.rng1 (.int 3)) (.cons (.asg (.var 6) (.bin .add (.var 6) (.fr (.comp (.call 34 (.cons (.idx (.var 5) (.var 7)) (.cons (.var 10) .nil))) [10] (.var 10) (.seq (.idx (.var 1) (.var 7))) .no)))) (.cons (.for [8, 9] (.var 8) (.seq (.bin .add (.var 2) (.fr (.lst (.cons (.int 0) (.cons (.int 999) .nil)))))) (.cons (.asg (.var 9) (.call 34 (.cons (.idx (.var 5) (.var 7)) (.cons (.call 2 (.cons (.idx (.var 1) (.var 7)) (.cons (.var 8) .nil))) .nil)))) (.cons (.ifs (.not (.call 1 (.cons (.var 9) (.cons (.var 3) (.cons (.var 4) .nil))))) (.cons (.ret (.bl false)) .nil) .nil) .nil))) .nil))) (.cons (.ret (.and (.cons (.call 0 (.cons (.var 6) (.cons (.int 0) (.cons (.var 3) .nil)))) (.cons (.call 0 (.cons (.var 6) (.cons (.int 1) (.cons (.var 4) .nil)))) .nil)))) .nil)))))⟩
def fn__law_good : List D → RD := runD ⟨fns_54, cons, bis, hfns, rs, qs⟩ df__law_good
def ce1__law_good : Den :=
  (dCall fn_mark [(dBin idxD (dVar 5) (dVar 7)), (dVar 10)])
def lb2__law_good : SDen :=
  (sSeq (sAsg (Tg.st (.var 9)) (dCall fn_mark [(dBin idxD (dVar 5) (dVar 7)), (dCall fn__law_between [(dBin idxD (dVar 1) (dVar 7)), (dVar 8)])]))
  (sSeq (sIf (dUn notD (dCall fn__law_on_the_sheet [(dVar 9), (dVar 3), (dVar 4)]))
  (sSeq (sRet (dCst (.bl false)))
  sNil)
  sNil)
  sNil))
def lb1__law_good : SDen :=
  (sSeq (sAsg (Tg.st (.var 6)) (dBin addD (dVar 6) (dFr (fComp (iSeq (dBin idxD (dVar 1) (dVar 7))) (Tg.st (.var 10)) none ce1__law_good [10]))))
  (sSeq (sFor [8, 9] (iSeq (dBin addD (dVar 2) (dFr (fLst [(dCst (.int 0)), (dCst (.int 999))])))) (Tg.st (.var 8)) lb2__law_good)
  sNil))
def sh__law_good : SDen :=
  (sSeq (sAsg (Tg.st (.var 5)) (dCall fn_fitted [(dVar 0), (dVar 1), (dVar 3), (dVar 4)]))
  (sSeq (sIf (dBin (COp.fn .ne) (dCall fn_equation [(dVar 5)]) (dCall fn_equation [(dVar 0)]))
  (sSeq (sRet (dCst (.bl false)))
  sNil)
  sNil)
  (sSeq (sAsg (Tg.st (.var 6)) (dFr (fLst [])))
  (sSeq (sFor [7, 8, 9] (iRng [(dCst (.int 3))]) (Tg.st (.var 7)) lb1__law_good)
  (sSeq (sRet (dAnds [(dCall fn__law_borders [(dVar 6), (dCst (.int 0)), (dVar 3)]), (dCall fn__law_borders [(dVar 6), (dCst (.int 1)), (dVar 4)])]))
  sNil)))))
theorem fn__law_good_eq (a0 a1 a2 a3 a4 : D) : fn__law_good [a0, a1, a2, a3, a4] = endD (sh__law_good [.va a0, .va a1, .va a2, .va a3, .va a4, .no, .no, .no, .no, .no, .no]) := id rfl
abbrev fns_55 : List Fd := ⟨"_law_good", 5, none, fn__law_good⟩ :: fns_54
def df_law : Df := ⟨"law", ["_law_script", "_law_k", "_law_found", "_law_ranges_here", "_law_draws_here"], 1,
  (.cons (.for [1, 2, 3, 4] (.var 1) (.rng3 (.int 1) (.bi .max (.cons (.int 2) (.cons (.bi .min (.cons (.bi .len (.cons (.var 0) .nil)) (.cons (.int 30) .nil))) .nil))) (.int 2)) (.cons (.asg (.var 2) (.call 7 (.cons (.var 0) (.cons (.var 1) .nil)))) (.cons (.asg (.var 3) (.call 6 (.cons (.var 0) (.cons (.bin .add (.var 1) (.int 1)) .nil)))) (.cons (.asg (.var 4) (.call 16 (.cons (.var 0) (.cons (.bin .add (.var 1) (.int 1)) .nil)))) (.cons (.ifs (.isc false (.call 4 (.cons (.var 2) (.cons (.var 3) .nil))) .non) (.cons (.ifs (.not (.call 0 (.cons (.var 2) (.cons (.var 3) (.cons (.var 4) (.cons (.bin .add (.int 1) (.idx (.var 4) (.int 6))) (.cons (.bin .add (.int 1) (.idx (.var 4) (.int 7))) .nil))))))) (.cons (.ret (.bl false)) .nil) .nil) .nil) .nil) .nil))))) (.cons (.ret (.bl true)) .nil))⟩
def fn_law : List D → RD := runD ⟨fns_55, cons, bis, hfns, rs, qs⟩ df_law
def lb1_law : SDen :=
  (sSeq (sAsg (Tg.st (.var 2)) (dCall fn__law_chart [(dVar 0), (dVar 1)]))
  (sSeq (sAsg (Tg.st (.var 3)) (dCall fn__law_ranges [(dVar 0), (dBin addD (dVar 1) (dCst (.int 1)))]))
  (sSeq (sAsg (Tg.st (.var 4)) (dCall fn__law_draws [(dVar 0), (dBin addD (dVar 1) (dCst (.int 1)))]))
  (sSeq (sIf (dBin (isD false) (dCall fn__law_which [(dVar 2), (dVar 3)]) (dCst .non))
  (sSeq (sIf (dUn notD (dCall fn__law_good [(dVar 2), (dVar 3), (dVar 4), (dBin addD (dCst (.int 1)) (dBin idxD (dVar 4) (dCst (.int 6)))), (dBin addD (dCst (.int 1)) (dBin idxD (dVar 4) (dCst (.int 7))))]))
  (sSeq (sRet (dCst (.bl false)))
  sNil)
  sNil)
  sNil)
  sNil)
  sNil))))
def sh_law : SDen :=
  (sSeq (sFor [1, 2, 3, 4] (iLs rng3L [(dCst (.int 1)), (dBi maxL [(dCst (.int 2)), (dBi minL [(dBi lenL [(dVar 0)]), (dCst (.int 30))])]), (dCst (.int 2))]) (Tg.st (.var 1)) lb1_law)
  (sSeq (sRet (dCst (.bl true)))
  sNil))
theorem fn_law_eq (a0 : D) : fn_law [a0] = endD (sh_law [.va a0, .no, .no, .no, .no]) := id rfl
abbrev fns_56 : List Fd := ⟨"law", 1, none, fn_law⟩ :: fns_55
def topS (i : Nat) : Stmt := PySem.Challenge.pw_threadchart_k51_whole_marks_on_the_sheet.main.body.getD i (.Pass ⟨0, 0, 0, 0⟩)
abbrev st_is_whole : Stmt := topS 11
abbrev st_divisor : Stmt := topS 12
abbrev st_value : Stmt := topS 13
abbrev st_fraction : Stmt := topS 14
abbrev st_minus : Stmt := topS 15
abbrev st_times : Stmt := topS 16
abbrev st_over : Stmt := topS 17
abbrev st_under : Stmt := topS 18
abbrev st_is_triple : Stmt := topS 20
abbrev st_divided : Stmt := topS 21
abbrev st_spot : Stmt := topS 22
abbrev st_crossed : Stmt := topS 23
abbrev st_together : Stmt := topS 25
abbrev st_determinant : Stmt := topS 26
abbrev st_joined : Stmt := topS 27
abbrev st_divisor_of : Stmt := topS 29
abbrev st_last_of : Stmt := topS 30
abbrev st_crossed_2 : Stmt := topS 31
abbrev st_scale : Stmt := topS 33
abbrev st_mark : Stmt := topS 34
abbrev st_line_of : Stmt := topS 35
abbrev st_shared_by : Stmt := topS 37
abbrev st_chart : Stmt := topS 38
abbrev st_equation : Stmt := topS 39
abbrev st_plain : Stmt := topS 40
abbrev st_shared : Stmt := topS 42
abbrev st_rows_of : Stmt := topS 43
abbrev st_plane_map : Stmt := topS 44
abbrev st_led_triple : Stmt := topS 45
abbrev st_led_scale : Stmt := topS 46
abbrev st_led_chart : Stmt := topS 47
abbrev st_third_of : Stmt := topS 49
abbrev st_look_at_ranges : Stmt := topS 50
abbrev st_places_of : Stmt := topS 51
abbrev st_stretch_to : Stmt := topS 52
abbrev st_fit : Stmt := topS 53
abbrev st_fitted : Stmt := topS 54
abbrev st__law_cell_at : Stmt := topS 56
abbrev st__law_draws : Stmt := topS 57
abbrev st__law_divisor : Stmt := topS 58
abbrev st__law_lowest : Stmt := topS 59
abbrev st__law_plus : Stmt := topS 60
abbrev st__law_times : Stmt := topS 61
abbrev st__law_fraction : Stmt := topS 63
abbrev st__law_triple : Stmt := topS 66
abbrev st__law_crossed : Stmt := topS 67
abbrev st__law_scale : Stmt := topS 68
abbrev st__law_chart : Stmt := topS 69
abbrev st__law_ranges : Stmt := topS 70
abbrev st__law_third : Stmt := topS 71
abbrev st__law_which : Stmt := topS 72
abbrev st__law_between : Stmt := topS 73
abbrev st__law_on_the_sheet : Stmt := topS 74
abbrev st__law_borders : Stmt := topS 75
abbrev st__law_good : Stmt := topS 76
abbrev st_law : Stmt := topS 77
theorem ck_is_whole : df_is_whole.ck ⟨fns_0, cons, bis, hfns, rs, qs⟩ st_is_whole = true := by decide +kernel
theorem ck_divisor : df_divisor.ck ⟨fns_1, cons, bis, hfns, rs, qs⟩ st_divisor = true := by decide +kernel
theorem ck_value : df_value.ck ⟨fns_2, cons, bis, hfns, rs, qs⟩ st_value = true := by decide +kernel
theorem ck_fraction : df_fraction.ck ⟨fns_3, cons, bis, hfns, rs, qs⟩ st_fraction = true := by decide +kernel
theorem ck_minus : df_minus.ck ⟨fns_4, cons, bis, hfns, rs, qs⟩ st_minus = true := by decide +kernel
theorem ck_times : df_times.ck ⟨fns_5, cons, bis, hfns, rs, qs⟩ st_times = true := by decide +kernel
theorem ck_over : df_over.ck ⟨fns_6, cons, bis, hfns, rs, qs⟩ st_over = true := by decide +kernel
theorem ck_under : df_under.ck ⟨fns_7, cons, bis, hfns, rs, qs⟩ st_under = true := by decide +kernel
theorem ck_is_triple : df_is_triple.ck ⟨fns_8, cons, bis, hfns, rs, qs⟩ st_is_triple = true := by decide +kernel
theorem ck_divided : df_divided.ck ⟨fns_9, cons, bis, hfns, rs, qs⟩ st_divided = true := by decide +kernel
theorem ck_spot : df_spot.ck ⟨fns_10, cons, bis, hfns, rs, qs⟩ st_spot = true := by decide +kernel
theorem ck_crossed : df_crossed.ck ⟨fns_11, cons, bis, hfns, rs, qs⟩ st_crossed = true := by decide +kernel
theorem ck_together : df_together.ck ⟨fns_12, cons, bis, hfns, rs, qs⟩ st_together = true := by decide +kernel
theorem ck_determinant : df_determinant.ck ⟨fns_13, cons, bis, hfns, rs, qs⟩ st_determinant = true := by decide +kernel
theorem ck_joined : df_joined.ck ⟨fns_14, cons, bis, hfns, rs, qs⟩ st_joined = true := by decide +kernel
theorem ck_divisor_of : df_divisor_of.ck ⟨fns_15, cons, bis, hfns, rs, qs⟩ st_divisor_of = true := by decide +kernel
theorem ck_last_of : df_last_of.ck ⟨fns_16, cons, bis, hfns, rs, qs⟩ st_last_of = true := by decide +kernel
theorem ck_crossed_2 : df_crossed_2.ck ⟨fns_17, cons, bis, hfns, rs, qs⟩ st_crossed_2 = true := by decide +kernel
theorem ck_scale : df_scale.ck ⟨fns_18, cons, bis, hfns, rs, qs⟩ st_scale = true := by decide +kernel
theorem ck_mark : df_mark.ck ⟨fns_19, cons, bis, hfns, rs, qs⟩ st_mark = true := by decide +kernel
theorem ck_line_of : df_line_of.ck ⟨fns_20, cons, bis, hfns, rs, qs⟩ st_line_of = true := by decide +kernel
theorem ck_shared_by : df_shared_by.ck ⟨fns_21, cons, bis, hfns, rs, qs⟩ st_shared_by = true := by decide +kernel
theorem ck_chart : df_chart.ck ⟨fns_22, cons, bis, hfns, rs, qs⟩ st_chart = true := by decide +kernel
theorem ck_equation : df_equation.ck ⟨fns_23, cons, bis, hfns, rs, qs⟩ st_equation = true := by decide +kernel
theorem ck_plain : df_plain.ck ⟨fns_24, cons, bis, hfns, rs, qs⟩ st_plain = true := by decide +kernel
theorem ck_shared : df_shared.ck ⟨fns_25, cons, bis, hfns, rs, qs⟩ st_shared = true := by decide +kernel
theorem ck_rows_of : df_rows_of.ck ⟨fns_26, cons, bis, hfns, rs, qs⟩ st_rows_of = true := by decide +kernel
theorem ck_plane_map : df_plane_map.ck ⟨fns_27, cons, bis, hfns, rs, qs⟩ st_plane_map = true := by decide +kernel
theorem ck_led_triple : df_led_triple.ck ⟨fns_28, cons, bis, hfns, rs, qs⟩ st_led_triple = true := by decide +kernel
theorem ck_led_scale : df_led_scale.ck ⟨fns_29, cons, bis, hfns, rs, qs⟩ st_led_scale = true := by decide +kernel
theorem ck_led_chart : df_led_chart.ck ⟨fns_30, cons, bis, hfns, rs, qs⟩ st_led_chart = true := by decide +kernel
theorem ck_third_of : df_third_of.ck ⟨fns_31, cons, bis, hfns, rs, qs⟩ st_third_of = true := by decide +kernel
theorem ck_look_at_ranges : df_look_at_ranges.ck ⟨fns_32, cons, bis, hfns, rs, qs⟩ st_look_at_ranges = true := by decide +kernel
theorem ck_places_of : df_places_of.ck ⟨fns_33, cons, bis, hfns, rs, qs⟩ st_places_of = true := by decide +kernel
theorem ck_stretch_to : df_stretch_to.ck ⟨fns_34, cons, bis, hfns, rs, qs⟩ st_stretch_to = true := by decide +kernel
theorem ck_fit : df_fit.ck ⟨fns_35, cons, bis, hfns, rs, qs⟩ st_fit = true := by decide +kernel
theorem ck_fitted : df_fitted.ck ⟨fns_36, cons, bis, hfns, rs, qs⟩ st_fitted = true := by decide +kernel
theorem ck__law_cell_at : df__law_cell_at.ck ⟨fns_37, cons, bis, hfns, rs, qs⟩ st__law_cell_at = true := by decide +kernel
theorem ck__law_draws : df__law_draws.ck ⟨fns_38, cons, bis, hfns, rs, qs⟩ st__law_draws = true := by decide +kernel
theorem ck__law_divisor : df__law_divisor.ck ⟨fns_39, cons, bis, hfns, rs, qs⟩ st__law_divisor = true := by decide +kernel
theorem ck__law_lowest : df__law_lowest.ck ⟨fns_40, cons, bis, hfns, rs, qs⟩ st__law_lowest = true := by decide +kernel
theorem ck__law_plus : df__law_plus.ck ⟨fns_41, cons, bis, hfns, rs, qs⟩ st__law_plus = true := by decide +kernel
theorem ck__law_times : df__law_times.ck ⟨fns_42, cons, bis, hfns, rs, qs⟩ st__law_times = true := by decide +kernel
theorem ck__law_fraction : df__law_fraction.ck ⟨fns_43, cons, bis, hfns, rs, qs⟩ st__law_fraction = true := by decide +kernel
theorem ck__law_triple : df__law_triple.ck ⟨fns_44, cons, bis, hfns, rs, qs⟩ st__law_triple = true := by decide +kernel
theorem ck__law_crossed : df__law_crossed.ck ⟨fns_45, cons, bis, hfns, rs, qs⟩ st__law_crossed = true := by decide +kernel
theorem ck__law_scale : df__law_scale.ck ⟨fns_46, cons, bis, hfns, rs, qs⟩ st__law_scale = true := by decide +kernel
theorem ck__law_chart : df__law_chart.ck ⟨fns_47, cons, bis, hfns, rs, qs⟩ st__law_chart = true := by decide +kernel
theorem ck__law_ranges : df__law_ranges.ck ⟨fns_48, cons, bis, hfns, rs, qs⟩ st__law_ranges = true := by decide +kernel
theorem ck__law_third : df__law_third.ck ⟨fns_49, cons, bis, hfns, rs, qs⟩ st__law_third = true := by decide +kernel
theorem ck__law_which : df__law_which.ck ⟨fns_50, cons, bis, hfns, rs, qs⟩ st__law_which = true := by decide +kernel
theorem ck__law_between : df__law_between.ck ⟨fns_51, cons, bis, hfns, rs, qs⟩ st__law_between = true := by decide +kernel
theorem ck__law_on_the_sheet : df__law_on_the_sheet.ck ⟨fns_52, cons, bis, hfns, rs, qs⟩ st__law_on_the_sheet = true := by decide +kernel
theorem ck__law_borders : df__law_borders.ck ⟨fns_53, cons, bis, hfns, rs, qs⟩ st__law_borders = true := by decide +kernel
theorem ck__law_good : df__law_good.ck ⟨fns_54, cons, bis, hfns, rs, qs⟩ st__law_good = true := by decide +kernel
theorem ck_law : df_law.ck ⟨fns_55, cons, bis, hfns, rs, qs⟩ st_law = true := by decide +kernel
theorem all_mk {P : Program} {w : World} {K : PySem.W.Frag} {h : Heap} {mg : Str → Option Value} {fa : Addr} (X : K.In h) (G : h.Ns mainGlobals mg) (hfa : mg "law" = some (.ref fa))
    {f0 f1 f2 f3 f4 f5 f6 f7 f8 f9 f10 f11 f12 f13 f14 f15 f16 f17 f18 f19 f20 f21 f22 f23 f24 f25 f26 f27 f28 f29 f30 f31 f32 f33 f34 f35 f36 f37 f38 f39 f40 f41 f42 f43 f44 f45 f46 f47 f48 f49 f50 f51 f52 f53 f54 f55 : Addr} {od0 an0 od1 an1 od2 an2 od3 an3 od4 an4 od5 an5 od6 an6 od7 an7 od8 an8 od9 an9 od10 an10 od11 an11 od12 an12 od13 an13 od14 an14 od15 an15 od16 an16 od17 an17 od18 an18 od19 an19 od20 an20 od21 an21 od22 an22 od23 an23 od24 an24 od25 an25 od26 an26 od27 an27 od28 an28 od29 an29 od30 an30 od31 an31 od32 an32 od33 an33 od34 an34 od35 an35 od36 an36 od37 an37 od38 an38 od39 an39 od40 an40 od41 an41 od42 an42 od43 an43 od44 an44 od45 an45 od46 an46 od47 an47 od48 an48 od49 an49 od50 an50 od51 an51 od52 an52 od53 an53 od54 an54 od55 an55 : Option Addr} {sl0 sl1 sl2 sl3 sl4 sl5 sl6 sl7 sl8 sl9 sl10 sl11 sl12 sl13 sl14 sl15 sl16 sl17 sl18 sl19 sl20 sl21 sl22 sl23 sl24 sl25 sl26 sl27 sl28 sl29 sl30 sl31 sl32 sl33 sl34 sl35 sl36 sl37 sl38 sl39 sl40 sl41 sl42 sl43 sl44 sl45 sl46 sl47 sl48 sl49 sl50 sl51 sl52 sl53 sl54 sl55 : Array (Option Value)} {oc0 kV0 dc0 pm0 cd0 ct0 oc1 kV1 dc1 pm1 cd1 ct1 oc2 kV2 dc2 pm2 cd2 ct2 oc3 kV3 dc3 pm3 cd3 ct3 oc4 kV4 dc4 pm4 cd4 ct4 oc5 kV5 dc5 pm5 cd5 ct5 oc6 kV6 dc6 pm6 cd6 ct6 oc7 kV7 dc7 pm7 cd7 ct7 oc8 kV8 dc8 pm8 cd8 ct8 oc9 kV9 dc9 pm9 cd9 ct9 oc10 kV10 dc10 pm10 cd10 ct10 oc11 kV11 dc11 pm11 cd11 ct11 oc12 kV12 dc12 pm12 cd12 ct12 oc13 kV13 dc13 pm13 cd13 ct13 oc14 kV14 dc14 pm14 cd14 ct14 oc15 kV15 dc15 pm15 cd15 ct15 oc16 kV16 dc16 pm16 cd16 ct16 oc17 kV17 dc17 pm17 cd17 ct17 oc18 kV18 dc18 pm18 cd18 ct18 oc19 kV19 dc19 pm19 cd19 ct19 oc20 kV20 dc20 pm20 cd20 ct20 oc21 kV21 dc21 pm21 cd21 ct21 oc22 kV22 dc22 pm22 cd22 ct22 oc23 kV23 dc23 pm23 cd23 ct23 oc24 kV24 dc24 pm24 cd24 ct24 oc25 kV25 dc25 pm25 cd25 ct25 oc26 kV26 dc26 pm26 cd26 ct26 oc27 kV27 dc27 pm27 cd27 ct27 oc28 kV28 dc28 pm28 cd28 ct28 oc29 kV29 dc29 pm29 cd29 ct29 oc30 kV30 dc30 pm30 cd30 ct30 oc31 kV31 dc31 pm31 cd31 ct31 oc32 kV32 dc32 pm32 cd32 ct32 oc33 kV33 dc33 pm33 cd33 ct33 oc34 kV34 dc34 pm34 cd34 ct34 oc35 kV35 dc35 pm35 cd35 ct35 oc36 kV36 dc36 pm36 cd36 ct36 oc37 kV37 dc37 pm37 cd37 ct37 oc38 kV38 dc38 pm38 cd38 ct38 oc39 kV39 dc39 pm39 cd39 ct39 oc40 kV40 dc40 pm40 cd40 ct40 oc41 kV41 dc41 pm41 cd41 ct41 oc42 kV42 dc42 pm42 cd42 ct42 oc43 kV43 dc43 pm43 cd43 ct43 oc44 kV44 dc44 pm44 cd44 ct44 oc45 kV45 dc45 pm45 cd45 ct45 oc46 kV46 dc46 pm46 cd46 ct46 oc47 kV47 dc47 pm47 cd47 ct47 oc48 kV48 dc48 pm48 cd48 ct48 oc49 kV49 dc49 pm49 cd49 ct49 oc50 kV50 dc50 pm50 cd50 ct50 oc51 kV51 dc51 pm51 cd51 ct51 oc52 kV52 dc52 pm52 cd52 ct52 oc53 kV53 dc53 pm53 cd53 ct53 oc54 kV54 dc54 pm54 cd54 ct54 oc55 kV55 dc55 pm55 cd55 ct55 : Value}
    (a0_0 : PySem.W.nsIn K mainGlobals "is_whole" = some (some (.ref f0))) (l0 : K.lookup f0 = some ⟨oc0, od0, .func (PySem.W.fnOf "is_whole" "is_whole" (defArgs st_is_whole) (defBody st_is_whole) (defScope st_is_whole) .none kV0 dc0 pm0 an0 cd0 ct0), sl0⟩) (c0 : PySem.W.codeIn K cd0 "is_whole" = true) (k0 : PySem.W.keepIn K (.ref f0) = true)
    (a1_0 : PySem.W.nsIn K mainGlobals "divisor" = some (some (.ref f1))) (l1 : K.lookup f1 = some ⟨oc1, od1, .func (PySem.W.fnOf "divisor" "divisor" (defArgs st_divisor) (defBody st_divisor) (defScope st_divisor) .none kV1 dc1 pm1 an1 cd1 ct1), sl1⟩) (c1 : PySem.W.codeIn K cd1 "divisor" = true) (k1 : PySem.W.keepIn K (.ref f1) = true)
    (a2_0 : PySem.W.nsIn K mainGlobals "value" = some (some (.ref f2))) (l2 : K.lookup f2 = some ⟨oc2, od2, .func (PySem.W.fnOf "value" "value" (defArgs st_value) (defBody st_value) (defScope st_value) .none kV2 dc2 pm2 an2 cd2 ct2), sl2⟩) (c2 : PySem.W.codeIn K cd2 "value" = true) (k2 : PySem.W.keepIn K (.ref f2) = true)
    (a3_0 : PySem.W.nsIn K mainGlobals "fraction" = some (some (.ref f3))) (l3 : K.lookup f3 = some ⟨oc3, od3, .func (PySem.W.fnOf "fraction" "fraction" (defArgs st_fraction) (defBody st_fraction) (defScope st_fraction) .none kV3 dc3 pm3 an3 cd3 ct3), sl3⟩) (c3 : PySem.W.codeIn K cd3 "fraction" = true) (k3 : PySem.W.keepIn K (.ref f3) = true)
    (a4_0 : PySem.W.nsIn K mainGlobals "minus" = some (some (.ref f4))) (l4 : K.lookup f4 = some ⟨oc4, od4, .func (PySem.W.fnOf "minus" "minus" (defArgs st_minus) (defBody st_minus) (defScope st_minus) .none kV4 dc4 pm4 an4 cd4 ct4), sl4⟩) (c4 : PySem.W.codeIn K cd4 "minus" = true) (k4 : PySem.W.keepIn K (.ref f4) = true)
    (a5_0 : PySem.W.nsIn K mainGlobals "times" = some (some (.ref f5))) (l5 : K.lookup f5 = some ⟨oc5, od5, .func (PySem.W.fnOf "times" "times" (defArgs st_times) (defBody st_times) (defScope st_times) .none kV5 dc5 pm5 an5 cd5 ct5), sl5⟩) (c5 : PySem.W.codeIn K cd5 "times" = true) (k5 : PySem.W.keepIn K (.ref f5) = true)
    (a6_0 : PySem.W.nsIn K mainGlobals "over" = some (some (.ref f6))) (l6 : K.lookup f6 = some ⟨oc6, od6, .func (PySem.W.fnOf "over" "over" (defArgs st_over) (defBody st_over) (defScope st_over) .none kV6 dc6 pm6 an6 cd6 ct6), sl6⟩) (c6 : PySem.W.codeIn K cd6 "over" = true) (k6 : PySem.W.keepIn K (.ref f6) = true)
    (a7_0 : PySem.W.nsIn K mainGlobals "under" = some (some (.ref f7))) (l7 : K.lookup f7 = some ⟨oc7, od7, .func (PySem.W.fnOf "under" "under" (defArgs st_under) (defBody st_under) (defScope st_under) .none kV7 dc7 pm7 an7 cd7 ct7), sl7⟩) (c7 : PySem.W.codeIn K cd7 "under" = true) (k7 : PySem.W.keepIn K (.ref f7) = true)
    (a8_0 : PySem.W.nsIn K mainGlobals "is_triple" = some (some (.ref f8))) (l8 : K.lookup f8 = some ⟨oc8, od8, .func (PySem.W.fnOf "is_triple" "is_triple" (defArgs st_is_triple) (defBody st_is_triple) (defScope st_is_triple) .none kV8 dc8 pm8 an8 cd8 ct8), sl8⟩) (c8 : PySem.W.codeIn K cd8 "is_triple" = true) (k8 : PySem.W.keepIn K (.ref f8) = true)
    (a9_0 : PySem.W.nsIn K mainGlobals "divided" = some (some (.ref f9))) (l9 : K.lookup f9 = some ⟨oc9, od9, .func (PySem.W.fnOf "divided" "divided" (defArgs st_divided) (defBody st_divided) (defScope st_divided) .none kV9 dc9 pm9 an9 cd9 ct9), sl9⟩) (c9 : PySem.W.codeIn K cd9 "divided" = true) (k9 : PySem.W.keepIn K (.ref f9) = true)
    (a10_0 : PySem.W.nsIn K mainGlobals "spot" = some (some (.ref f10))) (l10 : K.lookup f10 = some ⟨oc10, od10, .func (PySem.W.fnOf "spot" "spot" (defArgs st_spot) (defBody st_spot) (defScope st_spot) .none kV10 dc10 pm10 an10 cd10 ct10), sl10⟩) (c10 : PySem.W.codeIn K cd10 "spot" = true) (k10 : PySem.W.keepIn K (.ref f10) = true)
    (a11_0 : PySem.W.nsIn K mainGlobals "crossed_spots" = some (some (.ref f11))) (l11 : K.lookup f11 = some ⟨oc11, od11, .func (PySem.W.fnOf "crossed" "crossed" (defArgs st_crossed) (defBody st_crossed) (defScope st_crossed) .none kV11 dc11 pm11 an11 cd11 ct11), sl11⟩) (c11 : PySem.W.codeIn K cd11 "crossed" = true) (k11 : PySem.W.keepIn K (.ref f11) = true)
    (a12_0 : PySem.W.nsIn K mainGlobals "together" = some (some (.ref f12))) (l12 : K.lookup f12 = some ⟨oc12, od12, .func (PySem.W.fnOf "together" "together" (defArgs st_together) (defBody st_together) (defScope st_together) .none kV12 dc12 pm12 an12 cd12 ct12), sl12⟩) (c12 : PySem.W.codeIn K cd12 "together" = true) (k12 : PySem.W.keepIn K (.ref f12) = true)
    (a13_0 : PySem.W.nsIn K mainGlobals "determinant" = some (some (.ref f13))) (l13 : K.lookup f13 = some ⟨oc13, od13, .func (PySem.W.fnOf "determinant" "determinant" (defArgs st_determinant) (defBody st_determinant) (defScope st_determinant) .none kV13 dc13 pm13 an13 cd13 ct13), sl13⟩) (c13 : PySem.W.codeIn K cd13 "determinant" = true) (k13 : PySem.W.keepIn K (.ref f13) = true)
    (a14_0 : PySem.W.nsIn K mainGlobals "joined" = some (some (.ref f14))) (l14 : K.lookup f14 = some ⟨oc14, od14, .func (PySem.W.fnOf "joined" "joined" (defArgs st_joined) (defBody st_joined) (defScope st_joined) .none kV14 dc14 pm14 an14 cd14 ct14), sl14⟩) (c14 : PySem.W.codeIn K cd14 "joined" = true) (k14 : PySem.W.keepIn K (.ref f14) = true)
    (a15_0 : PySem.W.nsIn K mainGlobals "divisor_of" = some (some (.ref f15))) (l15 : K.lookup f15 = some ⟨oc15, od15, .func (PySem.W.fnOf "divisor_of" "divisor_of" (defArgs st_divisor_of) (defBody st_divisor_of) (defScope st_divisor_of) .none kV15 dc15 pm15 an15 cd15 ct15), sl15⟩) (c15 : PySem.W.codeIn K cd15 "divisor_of" = true) (k15 : PySem.W.keepIn K (.ref f15) = true)
    (a16_0 : PySem.W.nsIn K mainGlobals "last_of" = some (some (.ref f16))) (l16 : K.lookup f16 = some ⟨oc16, od16, .func (PySem.W.fnOf "last_of" "last_of" (defArgs st_last_of) (defBody st_last_of) (defScope st_last_of) .none kV16 dc16 pm16 an16 cd16 ct16), sl16⟩) (c16 : PySem.W.codeIn K cd16 "last_of" = true) (k16 : PySem.W.keepIn K (.ref f16) = true)
    (a17_0 : PySem.W.nsIn K mainGlobals "crossed_scales" = some (some (.ref f17))) (l17 : K.lookup f17 = some ⟨oc17, od17, .func (PySem.W.fnOf "crossed" "crossed" (defArgs st_crossed_2) (defBody st_crossed_2) (defScope st_crossed_2) .none kV17 dc17 pm17 an17 cd17 ct17), sl17⟩) (c17 : PySem.W.codeIn K cd17 "crossed" = true) (k17 : PySem.W.keepIn K (.ref f17) = true)
    (a18_0 : PySem.W.nsIn K mainGlobals "scale" = some (some (.ref f18))) (l18 : K.lookup f18 = some ⟨oc18, od18, .func (PySem.W.fnOf "scale" "scale" (defArgs st_scale) (defBody st_scale) (defScope st_scale) .none kV18 dc18 pm18 an18 cd18 ct18), sl18⟩) (c18 : PySem.W.codeIn K cd18 "scale" = true) (k18 : PySem.W.keepIn K (.ref f18) = true)
    (a19_0 : PySem.W.nsIn K mainGlobals "mark" = some (some (.ref f19))) (l19 : K.lookup f19 = some ⟨oc19, od19, .func (PySem.W.fnOf "mark" "mark" (defArgs st_mark) (defBody st_mark) (defScope st_mark) .none kV19 dc19 pm19 an19 cd19 ct19), sl19⟩) (c19 : PySem.W.codeIn K cd19 "mark" = true) (k19 : PySem.W.keepIn K (.ref f19) = true)
    (a20_0 : PySem.W.nsIn K mainGlobals "line_of" = some (some (.ref f20))) (l20 : K.lookup f20 = some ⟨oc20, od20, .func (PySem.W.fnOf "line_of" "line_of" (defArgs st_line_of) (defBody st_line_of) (defScope st_line_of) .none kV20 dc20 pm20 an20 cd20 ct20), sl20⟩) (c20 : PySem.W.codeIn K cd20 "line_of" = true) (k20 : PySem.W.keepIn K (.ref f20) = true)
    (a21_0 : PySem.W.nsIn K mainGlobals "shared_by" = some (some (.ref f21))) (l21 : K.lookup f21 = some ⟨oc21, od21, .func (PySem.W.fnOf "shared_by" "shared_by" (defArgs st_shared_by) (defBody st_shared_by) (defScope st_shared_by) .none kV21 dc21 pm21 an21 cd21 ct21), sl21⟩) (c21 : PySem.W.codeIn K cd21 "shared_by" = true) (k21 : PySem.W.keepIn K (.ref f21) = true)
    (a22_0 : PySem.W.nsIn K mainGlobals "chart" = some (some (.ref f22))) (l22 : K.lookup f22 = some ⟨oc22, od22, .func (PySem.W.fnOf "chart" "chart" (defArgs st_chart) (defBody st_chart) (defScope st_chart) .none kV22 dc22 pm22 an22 cd22 ct22), sl22⟩) (c22 : PySem.W.codeIn K cd22 "chart" = true) (k22 : PySem.W.keepIn K (.ref f22) = true)
    (a23_0 : PySem.W.nsIn K mainGlobals "equation" = some (some (.ref f23))) (l23 : K.lookup f23 = some ⟨oc23, od23, .func (PySem.W.fnOf "equation" "equation" (defArgs st_equation) (defBody st_equation) (defScope st_equation) .none kV23 dc23 pm23 an23 cd23 ct23), sl23⟩) (c23 : PySem.W.codeIn K cd23 "equation" = true) (k23 : PySem.W.keepIn K (.ref f23) = true)
    (a24_0 : PySem.W.nsIn K mainGlobals "plain" = some (some (.ref f24))) (l24 : K.lookup f24 = some ⟨oc24, od24, .func (PySem.W.fnOf "plain" "plain" (defArgs st_plain) (defBody st_plain) (defScope st_plain) .none kV24 dc24 pm24 an24 cd24 ct24), sl24⟩) (c24 : PySem.W.codeIn K cd24 "plain" = true) (k24 : PySem.W.keepIn K (.ref f24) = true)
    (a25_0 : PySem.W.nsIn K mainGlobals "shared" = some (some (.ref f25))) (l25 : K.lookup f25 = some ⟨oc25, od25, .func (PySem.W.fnOf "shared" "shared" (defArgs st_shared) (defBody st_shared) (defScope st_shared) .none kV25 dc25 pm25 an25 cd25 ct25), sl25⟩) (c25 : PySem.W.codeIn K cd25 "shared" = true) (k25 : PySem.W.keepIn K (.ref f25) = true)
    (a26_0 : PySem.W.nsIn K mainGlobals "rows_of" = some (some (.ref f26))) (l26 : K.lookup f26 = some ⟨oc26, od26, .func (PySem.W.fnOf "rows_of" "rows_of" (defArgs st_rows_of) (defBody st_rows_of) (defScope st_rows_of) .none kV26 dc26 pm26 an26 cd26 ct26), sl26⟩) (c26 : PySem.W.codeIn K cd26 "rows_of" = true) (k26 : PySem.W.keepIn K (.ref f26) = true)
    (a27_0 : PySem.W.nsIn K mainGlobals "plane_map" = some (some (.ref f27))) (l27 : K.lookup f27 = some ⟨oc27, od27, .func (PySem.W.fnOf "plane_map" "plane_map" (defArgs st_plane_map) (defBody st_plane_map) (defScope st_plane_map) .none kV27 dc27 pm27 an27 cd27 ct27), sl27⟩) (c27 : PySem.W.codeIn K cd27 "plane_map" = true) (k27 : PySem.W.keepIn K (.ref f27) = true)
    (a28_0 : PySem.W.nsIn K mainGlobals "led_triple" = some (some (.ref f28))) (l28 : K.lookup f28 = some ⟨oc28, od28, .func (PySem.W.fnOf "led_triple" "led_triple" (defArgs st_led_triple) (defBody st_led_triple) (defScope st_led_triple) .none kV28 dc28 pm28 an28 cd28 ct28), sl28⟩) (c28 : PySem.W.codeIn K cd28 "led_triple" = true) (k28 : PySem.W.keepIn K (.ref f28) = true)
    (a29_0 : PySem.W.nsIn K mainGlobals "led_scale" = some (some (.ref f29))) (l29 : K.lookup f29 = some ⟨oc29, od29, .func (PySem.W.fnOf "led_scale" "led_scale" (defArgs st_led_scale) (defBody st_led_scale) (defScope st_led_scale) .none kV29 dc29 pm29 an29 cd29 ct29), sl29⟩) (c29 : PySem.W.codeIn K cd29 "led_scale" = true) (k29 : PySem.W.keepIn K (.ref f29) = true)
    (a30_0 : PySem.W.nsIn K mainGlobals "led_chart" = some (some (.ref f30))) (l30 : K.lookup f30 = some ⟨oc30, od30, .func (PySem.W.fnOf "led_chart" "led_chart" (defArgs st_led_chart) (defBody st_led_chart) (defScope st_led_chart) .none kV30 dc30 pm30 an30 cd30 ct30), sl30⟩) (c30 : PySem.W.codeIn K cd30 "led_chart" = true) (k30 : PySem.W.keepIn K (.ref f30) = true)
    (a31_0 : PySem.W.nsIn K mainGlobals "third_of" = some (some (.ref f31))) (l31 : K.lookup f31 = some ⟨oc31, od31, .func (PySem.W.fnOf "third_of" "third_of" (defArgs st_third_of) (defBody st_third_of) (defScope st_third_of) .none kV31 dc31 pm31 an31 cd31 ct31), sl31⟩) (c31 : PySem.W.codeIn K cd31 "third_of" = true) (k31 : PySem.W.keepIn K (.ref f31) = true)
    (a32_0 : PySem.W.nsIn K mainGlobals "look_at_ranges" = some (some (.ref f32))) (l32 : K.lookup f32 = some ⟨oc32, od32, .func (PySem.W.fnOf "look_at_ranges" "look_at_ranges" (defArgs st_look_at_ranges) (defBody st_look_at_ranges) (defScope st_look_at_ranges) .none kV32 dc32 pm32 an32 cd32 ct32), sl32⟩) (c32 : PySem.W.codeIn K cd32 "look_at_ranges" = true) (k32 : PySem.W.keepIn K (.ref f32) = true)
    (a33_0 : PySem.W.nsIn K mainGlobals "places_of" = some (some (.ref f33))) (l33 : K.lookup f33 = some ⟨oc33, od33, .func (PySem.W.fnOf "places_of" "places_of" (defArgs st_places_of) (defBody st_places_of) (defScope st_places_of) .none kV33 dc33 pm33 an33 cd33 ct33), sl33⟩) (c33 : PySem.W.codeIn K cd33 "places_of" = true) (k33 : PySem.W.keepIn K (.ref f33) = true)
    (a34_0 : PySem.W.nsIn K mainGlobals "stretch_to" = some (some (.ref f34))) (l34 : K.lookup f34 = some ⟨oc34, od34, .func (PySem.W.fnOf "stretch_to" "stretch_to" (defArgs st_stretch_to) (defBody st_stretch_to) (defScope st_stretch_to) .none kV34 dc34 pm34 an34 cd34 ct34), sl34⟩) (c34 : PySem.W.codeIn K cd34 "stretch_to" = true) (k34 : PySem.W.keepIn K (.ref f34) = true)
    (a35_0 : PySem.W.nsIn K mainGlobals "fit" = some (some (.ref f35))) (l35 : K.lookup f35 = some ⟨oc35, od35, .func (PySem.W.fnOf "fit" "fit" (defArgs st_fit) (defBody st_fit) (defScope st_fit) .none kV35 dc35 pm35 an35 cd35 ct35), sl35⟩) (c35 : PySem.W.codeIn K cd35 "fit" = true) (k35 : PySem.W.keepIn K (.ref f35) = true)
    (a36_0 : PySem.W.nsIn K mainGlobals "fitted" = some (some (.ref f36))) (l36 : K.lookup f36 = some ⟨oc36, od36, .func (PySem.W.fnOf "fitted" "fitted" (defArgs st_fitted) (defBody st_fitted) (defScope st_fitted) .none kV36 dc36 pm36 an36 cd36 ct36), sl36⟩) (c36 : PySem.W.codeIn K cd36 "fitted" = true) (k36 : PySem.W.keepIn K (.ref f36) = true)
    (a37_0 : PySem.W.nsIn K mainGlobals "_law_cell_at" = some (some (.ref f37))) (l37 : K.lookup f37 = some ⟨oc37, od37, .func (PySem.W.fnOf "_law_cell_at" "_law_cell_at" (defArgs st__law_cell_at) (defBody st__law_cell_at) (defScope st__law_cell_at) .none kV37 dc37 pm37 an37 cd37 ct37), sl37⟩) (c37 : PySem.W.codeIn K cd37 "_law_cell_at" = true) (k37 : PySem.W.keepIn K (.ref f37) = true)
    (a38_0 : PySem.W.nsIn K mainGlobals "_law_draws" = some (some (.ref f38))) (l38 : K.lookup f38 = some ⟨oc38, od38, .func (PySem.W.fnOf "_law_draws" "_law_draws" (defArgs st__law_draws) (defBody st__law_draws) (defScope st__law_draws) .none kV38 dc38 pm38 an38 cd38 ct38), sl38⟩) (c38 : PySem.W.codeIn K cd38 "_law_draws" = true) (k38 : PySem.W.keepIn K (.ref f38) = true)
    (a39_0 : PySem.W.nsIn K mainGlobals "_law_divisor" = some (some (.ref f39))) (l39 : K.lookup f39 = some ⟨oc39, od39, .func (PySem.W.fnOf "_law_divisor" "_law_divisor" (defArgs st__law_divisor) (defBody st__law_divisor) (defScope st__law_divisor) .none kV39 dc39 pm39 an39 cd39 ct39), sl39⟩) (c39 : PySem.W.codeIn K cd39 "_law_divisor" = true) (k39 : PySem.W.keepIn K (.ref f39) = true)
    (a40_0 : PySem.W.nsIn K mainGlobals "_law_lowest" = some (some (.ref f40))) (l40 : K.lookup f40 = some ⟨oc40, od40, .func (PySem.W.fnOf "_law_lowest" "_law_lowest" (defArgs st__law_lowest) (defBody st__law_lowest) (defScope st__law_lowest) .none kV40 dc40 pm40 an40 cd40 ct40), sl40⟩) (c40 : PySem.W.codeIn K cd40 "_law_lowest" = true) (k40 : PySem.W.keepIn K (.ref f40) = true)
    (a41_0 : PySem.W.nsIn K mainGlobals "_law_plus" = some (some (.ref f41))) (l41 : K.lookup f41 = some ⟨oc41, od41, .func (PySem.W.fnOf "_law_plus" "_law_plus" (defArgs st__law_plus) (defBody st__law_plus) (defScope st__law_plus) .none kV41 dc41 pm41 an41 cd41 ct41), sl41⟩) (c41 : PySem.W.codeIn K cd41 "_law_plus" = true) (k41 : PySem.W.keepIn K (.ref f41) = true)
    (a42_0 : PySem.W.nsIn K mainGlobals "_law_times" = some (some (.ref f42))) (l42 : K.lookup f42 = some ⟨oc42, od42, .func (PySem.W.fnOf "_law_times" "_law_times" (defArgs st__law_times) (defBody st__law_times) (defScope st__law_times) .none kV42 dc42 pm42 an42 cd42 ct42), sl42⟩) (c42 : PySem.W.codeIn K cd42 "_law_times" = true) (k42 : PySem.W.keepIn K (.ref f42) = true)
    (a43_0 : PySem.W.nsIn K mainGlobals "_law_fraction" = some (some (.ref f43))) (l43 : K.lookup f43 = some ⟨oc43, od43, .func (PySem.W.fnOf "_law_fraction" "_law_fraction" (defArgs st__law_fraction) (defBody st__law_fraction) (defScope st__law_fraction) .none kV43 dc43 pm43 an43 cd43 ct43), sl43⟩) (c43 : PySem.W.codeIn K cd43 "_law_fraction" = true) (k43 : PySem.W.keepIn K (.ref f43) = true)
    (a44_0 : PySem.W.nsIn K mainGlobals "_law_triple" = some (some (.ref f44))) (l44 : K.lookup f44 = some ⟨oc44, od44, .func (PySem.W.fnOf "_law_triple" "_law_triple" (defArgs st__law_triple) (defBody st__law_triple) (defScope st__law_triple) .none kV44 dc44 pm44 an44 cd44 ct44), sl44⟩) (c44 : PySem.W.codeIn K cd44 "_law_triple" = true) (k44 : PySem.W.keepIn K (.ref f44) = true)
    (a45_0 : PySem.W.nsIn K mainGlobals "_law_crossed" = some (some (.ref f45))) (l45 : K.lookup f45 = some ⟨oc45, od45, .func (PySem.W.fnOf "_law_crossed" "_law_crossed" (defArgs st__law_crossed) (defBody st__law_crossed) (defScope st__law_crossed) .none kV45 dc45 pm45 an45 cd45 ct45), sl45⟩) (c45 : PySem.W.codeIn K cd45 "_law_crossed" = true) (k45 : PySem.W.keepIn K (.ref f45) = true)
    (a46_0 : PySem.W.nsIn K mainGlobals "_law_scale" = some (some (.ref f46))) (l46 : K.lookup f46 = some ⟨oc46, od46, .func (PySem.W.fnOf "_law_scale" "_law_scale" (defArgs st__law_scale) (defBody st__law_scale) (defScope st__law_scale) .none kV46 dc46 pm46 an46 cd46 ct46), sl46⟩) (c46 : PySem.W.codeIn K cd46 "_law_scale" = true) (k46 : PySem.W.keepIn K (.ref f46) = true)
    (a47_0 : PySem.W.nsIn K mainGlobals "_law_chart" = some (some (.ref f47))) (l47 : K.lookup f47 = some ⟨oc47, od47, .func (PySem.W.fnOf "_law_chart" "_law_chart" (defArgs st__law_chart) (defBody st__law_chart) (defScope st__law_chart) .none kV47 dc47 pm47 an47 cd47 ct47), sl47⟩) (c47 : PySem.W.codeIn K cd47 "_law_chart" = true) (k47 : PySem.W.keepIn K (.ref f47) = true)
    (a48_0 : PySem.W.nsIn K mainGlobals "_law_ranges" = some (some (.ref f48))) (l48 : K.lookup f48 = some ⟨oc48, od48, .func (PySem.W.fnOf "_law_ranges" "_law_ranges" (defArgs st__law_ranges) (defBody st__law_ranges) (defScope st__law_ranges) .none kV48 dc48 pm48 an48 cd48 ct48), sl48⟩) (c48 : PySem.W.codeIn K cd48 "_law_ranges" = true) (k48 : PySem.W.keepIn K (.ref f48) = true)
    (a49_0 : PySem.W.nsIn K mainGlobals "_law_third" = some (some (.ref f49))) (l49 : K.lookup f49 = some ⟨oc49, od49, .func (PySem.W.fnOf "_law_third" "_law_third" (defArgs st__law_third) (defBody st__law_third) (defScope st__law_third) .none kV49 dc49 pm49 an49 cd49 ct49), sl49⟩) (c49 : PySem.W.codeIn K cd49 "_law_third" = true) (k49 : PySem.W.keepIn K (.ref f49) = true)
    (a50_0 : PySem.W.nsIn K mainGlobals "_law_which" = some (some (.ref f50))) (l50 : K.lookup f50 = some ⟨oc50, od50, .func (PySem.W.fnOf "_law_which" "_law_which" (defArgs st__law_which) (defBody st__law_which) (defScope st__law_which) .none kV50 dc50 pm50 an50 cd50 ct50), sl50⟩) (c50 : PySem.W.codeIn K cd50 "_law_which" = true) (k50 : PySem.W.keepIn K (.ref f50) = true)
    (a51_0 : PySem.W.nsIn K mainGlobals "_law_between" = some (some (.ref f51))) (l51 : K.lookup f51 = some ⟨oc51, od51, .func (PySem.W.fnOf "_law_between" "_law_between" (defArgs st__law_between) (defBody st__law_between) (defScope st__law_between) .none kV51 dc51 pm51 an51 cd51 ct51), sl51⟩) (c51 : PySem.W.codeIn K cd51 "_law_between" = true) (k51 : PySem.W.keepIn K (.ref f51) = true)
    (a52_0 : PySem.W.nsIn K mainGlobals "_law_on_the_sheet" = some (some (.ref f52))) (l52 : K.lookup f52 = some ⟨oc52, od52, .func (PySem.W.fnOf "_law_on_the_sheet" "_law_on_the_sheet" (defArgs st__law_on_the_sheet) (defBody st__law_on_the_sheet) (defScope st__law_on_the_sheet) .none kV52 dc52 pm52 an52 cd52 ct52), sl52⟩) (c52 : PySem.W.codeIn K cd52 "_law_on_the_sheet" = true) (k52 : PySem.W.keepIn K (.ref f52) = true)
    (a53_0 : PySem.W.nsIn K mainGlobals "_law_borders" = some (some (.ref f53))) (l53 : K.lookup f53 = some ⟨oc53, od53, .func (PySem.W.fnOf "_law_borders" "_law_borders" (defArgs st__law_borders) (defBody st__law_borders) (defScope st__law_borders) .none kV53 dc53 pm53 an53 cd53 ct53), sl53⟩) (c53 : PySem.W.codeIn K cd53 "_law_borders" = true) (k53 : PySem.W.keepIn K (.ref f53) = true)
    (a54_0 : PySem.W.nsIn K mainGlobals "_law_good" = some (some (.ref f54))) (l54 : K.lookup f54 = some ⟨oc54, od54, .func (PySem.W.fnOf "_law_good" "_law_good" (defArgs st__law_good) (defBody st__law_good) (defScope st__law_good) .none kV54 dc54 pm54 an54 cd54 ct54), sl54⟩) (c54 : PySem.W.codeIn K cd54 "_law_good" = true) (k54 : PySem.W.keepIn K (.ref f54) = true)
    (a55_0 : PySem.W.nsIn K mainGlobals "law" = some (some (.ref f55))) (l55 : K.lookup f55 = some ⟨oc55, od55, .func (PySem.W.fnOf "law" "law" (defArgs st_law) (defBody st_law) (defScope st_law) .none kV55 dc55 pm55 an55 cd55 ct55), sl55⟩) (c55 : PySem.W.codeIn K cd55 "law" = true) (k55 : PySem.W.keepIn K (.ref f55) = true)
    (z0 : PySem.W.nsIn K mainGlobals "abs" = some none)
    (z1 : PySem.W.nsIn K mainGlobals "all" = some none)
    (z2 : PySem.W.nsIn K mainGlobals "bool" = some none)
    (z3 : PySem.W.nsIn K mainGlobals "enumerate" = some none)
    (z4 : PySem.W.nsIn K mainGlobals "int" = some none)
    (z5 : PySem.W.nsIn K mainGlobals "isinstance" = some none)
    (z6 : PySem.W.nsIn K mainGlobals "len" = some none)
    (z7 : PySem.W.nsIn K mainGlobals "list" = some none)
    (z8 : PySem.W.nsIn K mainGlobals "max" = some none)
    (z9 : PySem.W.nsIn K mainGlobals "min" = some none)
    (z10 : PySem.W.nsIn K mainGlobals "range" = some none)
    (z11 : PySem.W.nsIn K mainGlobals "sum" = some none)
    (z12 : PySem.W.nsIn K mainGlobals "tuple" = some none)
    (z13 : PySem.W.nsIn K mainGlobals "zip" = some none)
    {p0_0 : Addr} {tk0_1 tk0_2 : Tok} {n0_0 : Nat} {dd0_0 : Option Addr} {ss0_0 : Array (Option Value)} (g0 : PySem.W.nsIn K mainGlobals "FAR" = some (some (.ref p0_0))) (q0_0 : K.lookup p0_0 = some ⟨.type "tuple", dd0_0, .seq #[.int (1) tk0_1, .int (0) tk0_2] n0_0, ss0_0⟩)
    (xx : excTab K rs qs = true)
    : ∃ fd : FuncData, (∀ (s : Shared) (v : Value), BindsTo s fd ⟨[v], []⟩ [("_law_script", v)]) ∧ ∀ (base : Heap), K.In base → base.Ns mainGlobals mg → FnOk P w K mg base (L2N.CX P w) 57 fa fd ["_law_script"] (spD K (ctOf K) 1 fn_law) := by
  have e := hfa.symm.trans (PySem.W.mg_of X G a55_0)
  cases e
  obtain ⟨xe, xa⟩ := excs_of X G xx
  have tp : ∀ fns hf, Top K mg ⟨fns, cons, bis, hf, rs, qs⟩ := fun fns hf => ⟨xe, xa, fun x hx => by
    simp only [bis, List.mem_cons, List.not_mem_nil, or_false] at hx
    rcases hx with rfl | rfl | rfl | rfl | rfl | rfl | rfl | rfl | rfl | rfl | rfl | rfl | rfl | rfl
    · exact PySem.W.mg_none_of X G z0
    · exact PySem.W.mg_none_of X G z1
    · exact PySem.W.mg_none_of X G z2
    · exact PySem.W.mg_none_of X G z3
    · exact PySem.W.mg_none_of X G z4
    · exact PySem.W.mg_none_of X G z5
    · exact PySem.W.mg_none_of X G z6
    · exact PySem.W.mg_none_of X G z7
    · exact PySem.W.mg_none_of X G z8
    · exact PySem.W.mg_none_of X G z9
    · exact PySem.W.mg_none_of X G z10
    · exact PySem.W.mg_none_of X G z11
    · exact PySem.W.mg_none_of X G z12
    · exact PySem.W.mg_none_of X G z13
    , fun k p e => by
    match k, e with
    | 0, e =>
      cases e
      exact ⟨_, .ref p0_0, PySem.W.mg_of X G g0, rfl, fun H => .tup (xs := [V.int (1), V.int (0)]) (.inr ⟨_, _, _, q0_0, rfl, rfl, (show (2 : Nat) ≤ sizeLine by decide), (.cons ⟨_, rfl⟩ (.cons ⟨_, rfl⟩ .nil))⟩) (.cons (.int _) (.cons (.int _) .nil))⟩
    | k + 1, e => cases e⟩
  have F0 := fun_mk (st := st_is_whole) l0 c0 k0
  have b0 := F0.binds (ps := ["thing"]) fun _ _ _ _ _ _ us hl => match us, hl with | [_], _ => rfl
  have F1 := fun_mk (st := st_divisor) l1 c1 k1
  have b1 := F1.binds (ps := ["one", "other"]) fun _ _ _ _ _ _ us hl => match us, hl with | [_, _], _ => rfl
  have F2 := fun_mk (st := st_value) l2 c2 k2
  have b2 := F2.binds (ps := ["top", "bottom"]) fun _ _ _ _ _ _ us hl => match us, hl with | [_, _], _ => rfl
  have F3 := fun_mk (st := st_fraction) l3 c3 k3
  have b3 := F3.binds (ps := ["top", "bottom"]) fun _ _ _ _ _ _ us hl => match us, hl with | [_, _], _ => rfl
  have F4 := fun_mk (st := st_minus) l4 c4 k4
  have b4 := F4.binds (ps := ["one", "other"]) fun _ _ _ _ _ _ us hl => match us, hl with | [_, _], _ => rfl
  have F5 := fun_mk (st := st_times) l5 c5 k5
  have b5 := F5.binds (ps := ["one", "other"]) fun _ _ _ _ _ _ us hl => match us, hl with | [_, _], _ => rfl
  have F6 := fun_mk (st := st_over) l6 c6 k6
  have b6 := F6.binds (ps := ["one", "other"]) fun _ _ _ _ _ _ us hl => match us, hl with | [_, _], _ => rfl
  have F7 := fun_mk (st := st_under) l7 c7 k7
  have b7 := F7.binds (ps := ["one", "other"]) fun _ _ _ _ _ _ us hl => match us, hl with | [_, _], _ => rfl
  have F8 := fun_mk (st := st_is_triple) l8 c8 k8
  have b8 := F8.binds (ps := ["thing"]) fun _ _ _ _ _ _ us hl => match us, hl with | [_], _ => rfl
  have F9 := fun_mk (st := st_divided) l9 c9 k9
  have b9 := F9.binds (ps := ["numbers"]) fun _ _ _ _ _ _ us hl => match us, hl with | [_], _ => rfl
  have F10 := fun_mk (st := st_spot) l10 c10 k10
  have b10 := F10.binds (ps := ["triple"]) fun _ _ _ _ _ _ us hl => match us, hl with | [_], _ => rfl
  have F11 := fun_mk (st := st_crossed) l11 c11 k11
  have b11 := F11.binds (ps := ["one", "other"]) fun _ _ _ _ _ _ us hl => match us, hl with | [_, _], _ => rfl
  have F12 := fun_mk (st := st_together) l12 c12 k12
  have b12 := F12.binds (ps := ["one", "other"]) fun _ _ _ _ _ _ us hl => match us, hl with | [_, _], _ => rfl
  have F13 := fun_mk (st := st_determinant) l13 c13 k13
  have b13 := F13.binds (ps := ["one", "two", "three"]) fun _ _ _ _ _ _ us hl => match us, hl with | [_, _, _], _ => rfl
  have F14 := fun_mk (st := st_joined) l14 c14 k14
  have b14 := F14.binds (ps := ["one", "other"]) fun _ _ _ _ _ _ us hl => match us, hl with | [_, _], _ => rfl
  have F15 := fun_mk (st := st_divisor_of) l15 c15 k15
  have b15 := F15.binds (ps := ["numbers"]) fun _ _ _ _ _ _ us hl => match us, hl with | [_], _ => rfl
  have F16 := fun_mk (st := st_last_of) l16 c16 k16
  have b16 := F16.binds (ps := ["numbers"]) fun _ _ _ _ _ _ us hl => match us, hl with | [_], _ => rfl
  have F17 := fun_mk (st := st_crossed_2) l17 c17 k17
  have b17 := F17.binds (ps := ["one", "other"]) fun _ _ _ _ _ _ us hl => match us, hl with | [_, _], _ => rfl
  have F18 := fun_mk (st := st_scale) l18 c18 k18
  have b18 := F18.binds (ps := ["p", "q"]) fun _ _ _ _ _ _ us hl => match us, hl with | [_, _], _ => rfl
  have F19 := fun_mk (st := st_mark) l19 c19 k19
  have b19 := F19.binds (ps := ["one", "told"]) fun _ _ _ _ _ _ us hl => match us, hl with | [_, _], _ => rfl
  have F20 := fun_mk (st := st_line_of) l20 c20 k20
  have b20 := F20.binds (ps := ["one"]) fun _ _ _ _ _ _ us hl => match us, hl with | [_], _ => rfl
  have F21 := fun_mk (st := st_shared_by) l21 c21 k21
  have b21 := F21.binds (ps := ["numbers"]) fun _ _ _ _ _ _ us hl => match us, hl with | [_], _ => rfl
  have F22 := fun_mk (st := st_chart) l22 c22 k22
  have b22 := F22.binds (ps := ["first", "second", "third"]) fun _ _ _ _ _ _ us hl => match us, hl with | [_, _, _], _ => rfl
  have F23 := fun_mk (st := st_equation) l23 c23 k23
  have b23 := F23.binds (ps := ["one"]) fun _ _ _ _ _ _ us hl => match us, hl with | [_], _ => rfl
  have F24 := fun_mk (st := st_plain) l24 c24 k24
  have b24 := F24.binds (ps := ["word"]) fun _ _ _ _ _ _ us hl => match us, hl with | [_], _ => rfl
  have F25 := fun_mk (st := st_shared) l25 c25 k25
  have b25 := F25.binds (ps := ["numbers"]) fun _ _ _ _ _ _ us hl => match us, hl with | [_], _ => rfl
  have F26 := fun_mk (st := st_rows_of) l26 c26 k26
  have b26 := F26.binds (ps := ["numbers"]) fun _ _ _ _ _ _ us hl => match us, hl with | [_], _ => rfl
  have F27 := fun_mk (st := st_plane_map) l27 c27 k27
  have b27 := F27.binds (ps := ["numbers"]) fun _ _ _ _ _ _ us hl => match us, hl with | [_], _ => rfl
  have F28 := fun_mk (st := st_led_triple) l28 c28 k28
  have b28 := F28.binds (ps := ["plane", "triple"]) fun _ _ _ _ _ _ us hl => match us, hl with | [_, _], _ => rfl
  have F29 := fun_mk (st := st_led_scale) l29 c29 k29
  have b29 := F29.binds (ps := ["plane", "told"]) fun _ _ _ _ _ _ us hl => match us, hl with | [_, _], _ => rfl
  have F30 := fun_mk (st := st_led_chart) l30 c30 k30
  have b30 := F30.binds (ps := ["plane", "told"]) fun _ _ _ _ _ _ us hl => match us, hl with | [_, _], _ => rfl
  have F31 := fun_mk (st := st_third_of) l31 c31 k31
  have b31 := F31.binds (ps := ["scale", "value"]) fun _ _ _ _ _ _ us hl => match us, hl with | [_, _], _ => rfl
  have F32 := fun_mk (st := st_look_at_ranges) l32 c32 k32
  have b32 := F32.binds (ps := ["chart", "ranges"]) fun _ _ _ _ _ _ us hl => match us, hl with | [_, _], _ => rfl
  have F33 := fun_mk (st := st_places_of) l33 c33 k33
  have b33 := F33.binds (ps := ["chart", "ranges", "at"]) fun _ _ _ _ _ _ us hl => match us, hl with | [_, _, _], _ => rfl
  have F34 := fun_mk (st := st_stretch_to) l34 c34 k34
  have b34 := F34.binds (ps := ["places", "size"]) fun _ _ _ _ _ _ us hl => match us, hl with | [_, _], _ => rfl
  have F35 := fun_mk (st := st_fit) l35 c35 k35
  have b35 := F35.binds (ps := ["chart", "ranges", "width", "height"]) fun _ _ _ _ _ _ us hl => match us, hl with | [_, _, _, _], _ => rfl
  have F36 := fun_mk (st := st_fitted) l36 c36 k36
  have b36 := F36.binds (ps := ["chart", "ranges", "width", "height"]) fun _ _ _ _ _ _ us hl => match us, hl with | [_, _, _, _], _ => rfl
  have F37 := fun_mk (st := st__law_cell_at) l37 c37 k37
  have b37 := F37.binds (ps := ["_law_script", "_law_k"]) fun _ _ _ _ _ _ us hl => match us, hl with | [_, _], _ => rfl
  have F38 := fun_mk (st := st__law_draws) l38 c38 k38
  have b38 := F38.binds (ps := ["_law_script", "_law_k"]) fun _ _ _ _ _ _ us hl => match us, hl with | [_, _], _ => rfl
  have F39 := fun_mk (st := st__law_divisor) l39 c39 k39
  have b39 := F39.binds (ps := ["_law_one", "_law_other"]) fun _ _ _ _ _ _ us hl => match us, hl with | [_, _], _ => rfl
  have F40 := fun_mk (st := st__law_lowest) l40 c40 k40
  have b40 := F40.binds (ps := ["_law_top", "_law_bottom"]) fun _ _ _ _ _ _ us hl => match us, hl with | [_, _], _ => rfl
  have F41 := fun_mk (st := st__law_plus) l41 c41 k41
  have b41 := F41.binds (ps := ["_law_one", "_law_other"]) fun _ _ _ _ _ _ us hl => match us, hl with | [_, _], _ => rfl
  have F42 := fun_mk (st := st__law_times) l42 c42 k42
  have b42 := F42.binds (ps := ["_law_one", "_law_other"]) fun _ _ _ _ _ _ us hl => match us, hl with | [_, _], _ => rfl
  have F43 := fun_mk (st := st__law_fraction) l43 c43 k43
  have b43 := F43.binds (ps := ["_law_draw", "_law_other"]) fun _ _ _ _ _ _ us hl => match us, hl with | [_, _], _ => rfl
  have F44 := fun_mk (st := st__law_triple) l44 c44 k44
  have b44 := F44.binds (ps := ["_law_draw"]) fun _ _ _ _ _ _ us hl => match us, hl with | [_], _ => rfl
  have F45 := fun_mk (st := st__law_crossed) l45 c45 k45
  have b45 := F45.binds (ps := ["_law_p", "_law_q"]) fun _ _ _ _ _ _ us hl => match us, hl with | [_, _], _ => rfl
  have F46 := fun_mk (st := st__law_scale) l46 c46 k46
  have b46 := F46.binds (ps := ["_law_draw", "_law_other", "_law_way"]) fun _ _ _ _ _ _ us hl => match us, hl with | [_, _, _], _ => rfl
  have F47 := fun_mk (st := st__law_chart) l47 c47 k47
  have b47 := F47.binds (ps := ["_law_script", "_law_k"]) fun _ _ _ _ _ _ us hl => match us, hl with | [_, _], _ => rfl
  have F48 := fun_mk (st := st__law_ranges) l48 c48 k48
  have b48 := F48.binds (ps := ["_law_script", "_law_k"]) fun _ _ _ _ _ _ us hl => match us, hl with | [_, _], _ => rfl
  have F49 := fun_mk (st := st__law_third) l49 c49 k49
  have b49 := F49.binds (ps := ["_law_one", "_law_amount"]) fun _ _ _ _ _ _ us hl => match us, hl with | [_, _], _ => rfl
  have F50 := fun_mk (st := st__law_which) l50 c50 k50
  have b50 := F50.binds (ps := ["_law_found", "_law_ranges_here"]) fun _ _ _ _ _ _ us hl => match us, hl with | [_, _], _ => rfl
  have F51 := fun_mk (st := st__law_between) l51 c51 k51
  have b51 := F51.binds (ps := ["_law_ends", "_law_part"]) fun _ _ _ _ _ _ us hl => match us, hl with | [_, _], _ => rfl
  have F52 := fun_mk (st := st__law_on_the_sheet) l52 c52 k52
  have b52 := F52.binds (ps := ["_law_dot", "_law_width", "_law_height"]) fun _ _ _ _ _ _ us hl => match us, hl with | [_, _, _], _ => rfl
  have F53 := fun_mk (st := st__law_borders) l53 c53 k53
  have b53 := F53.binds (ps := ["_law_spots", "_law_at", "_law_size"]) fun _ _ _ _ _ _ us hl => match us, hl with | [_, _, _], _ => rfl
  have F54 := fun_mk (st := st__law_good) l54 c54 k54
  have b54 := F54.binds (ps := ["_law_found", "_law_ranges_here", "_law_draws_here", "_law_width", "_law_height"]) fun _ _ _ _ _ _ us hl => match us, hl with | [_, _, _, _, _], _ => rfl
  have F55 := fun_mk (st := st_law) l55 c55 k55
  have b55 := F55.binds (ps := ["_law_script"]) fun _ _ _ _ _ _ us hl => match us, hl with | [_], _ => rfl
  refine ⟨PySem.W.fnOf "law" "law" (defArgs st_law) (defBody st_law) (defScope st_law) .none kV55 dc55 pm55 an55 cd55 ct55, fun s v => .of_eq rfl, fun base _ _ => ?_⟩
  have rH : ∀ p ∈ hfns, ReadyAtH P w K mg base (ctOf K) 1 p := (fun p h => by cases h)
  have r0 : ∀ p ∈ fns_0, ReadyAt P w K mg base (ctOf K) 1 p := fun p h => by cases h
  have r1 : ∀ p ∈ fns_1, ReadyAt P w K mg base (ctOf K) 2 p := ready_as F0 (PySem.W.mg_of X G a0_0) b0 (tp fns_0 hfns) rfl r0 (fun p h => (rH p h).up (by decide)) ck_is_whole (ready_up r0)
  have r2 : ∀ p ∈ fns_2, ReadyAt P w K mg base (ctOf K) 3 p := ready_as F1 (PySem.W.mg_of X G a1_0) b1 (tp fns_1 hfns) rfl r1 (fun p h => (rH p h).up (by decide)) ck_divisor (ready_up r1)
  have r3 : ∀ p ∈ fns_3, ReadyAt P w K mg base (ctOf K) 4 p := ready_as F2 (PySem.W.mg_of X G a2_0) b2 (tp fns_2 hfns) rfl r2 (fun p h => (rH p h).up (by decide)) ck_value (ready_up r2)
  have r4 : ∀ p ∈ fns_4, ReadyAt P w K mg base (ctOf K) 5 p := ready_as F3 (PySem.W.mg_of X G a3_0) b3 (tp fns_3 hfns) rfl r3 (fun p h => (rH p h).up (by decide)) ck_fraction (ready_up r3)
  have r5 : ∀ p ∈ fns_5, ReadyAt P w K mg base (ctOf K) 6 p := ready_as F4 (PySem.W.mg_of X G a4_0) b4 (tp fns_4 hfns) rfl r4 (fun p h => (rH p h).up (by decide)) ck_minus (ready_up r4)
  have r6 : ∀ p ∈ fns_6, ReadyAt P w K mg base (ctOf K) 7 p := ready_as F5 (PySem.W.mg_of X G a5_0) b5 (tp fns_5 hfns) rfl r5 (fun p h => (rH p h).up (by decide)) ck_times (ready_up r5)
  have r7 : ∀ p ∈ fns_7, ReadyAt P w K mg base (ctOf K) 8 p := ready_as F6 (PySem.W.mg_of X G a6_0) b6 (tp fns_6 hfns) rfl r6 (fun p h => (rH p h).up (by decide)) ck_over (ready_up r6)
  have r8 : ∀ p ∈ fns_8, ReadyAt P w K mg base (ctOf K) 9 p := ready_as F7 (PySem.W.mg_of X G a7_0) b7 (tp fns_7 hfns) rfl r7 (fun p h => (rH p h).up (by decide)) ck_under (ready_up r7)
  have r9 : ∀ p ∈ fns_9, ReadyAt P w K mg base (ctOf K) 10 p := ready_as F8 (PySem.W.mg_of X G a8_0) b8 (tp fns_8 hfns) rfl r8 (fun p h => (rH p h).up (by decide)) ck_is_triple (ready_up r8)
  have r10 : ∀ p ∈ fns_10, ReadyAt P w K mg base (ctOf K) 11 p := ready_as F9 (PySem.W.mg_of X G a9_0) b9 (tp fns_9 hfns) rfl r9 (fun p h => (rH p h).up (by decide)) ck_divided (ready_up r9)
  have r11 : ∀ p ∈ fns_11, ReadyAt P w K mg base (ctOf K) 12 p := ready_as F10 (PySem.W.mg_of X G a10_0) b10 (tp fns_10 hfns) rfl r10 (fun p h => (rH p h).up (by decide)) ck_spot (ready_up r10)
  have r12 : ∀ p ∈ fns_12, ReadyAt P w K mg base (ctOf K) 13 p := ready_as F11 (PySem.W.mg_of X G a11_0) b11 (tp fns_11 hfns) rfl r11 (fun p h => (rH p h).up (by decide)) ck_crossed (ready_up r11)
  have r13 : ∀ p ∈ fns_13, ReadyAt P w K mg base (ctOf K) 14 p := ready_as F12 (PySem.W.mg_of X G a12_0) b12 (tp fns_12 hfns) rfl r12 (fun p h => (rH p h).up (by decide)) ck_together (ready_up r12)
  have r14 : ∀ p ∈ fns_14, ReadyAt P w K mg base (ctOf K) 15 p := ready_as F13 (PySem.W.mg_of X G a13_0) b13 (tp fns_13 hfns) rfl r13 (fun p h => (rH p h).up (by decide)) ck_determinant (ready_up r13)
  have r15 : ∀ p ∈ fns_15, ReadyAt P w K mg base (ctOf K) 16 p := ready_as F14 (PySem.W.mg_of X G a14_0) b14 (tp fns_14 hfns) rfl r14 (fun p h => (rH p h).up (by decide)) ck_joined (ready_up r14)
  have r16 : ∀ p ∈ fns_16, ReadyAt P w K mg base (ctOf K) 17 p := ready_as F15 (PySem.W.mg_of X G a15_0) b15 (tp fns_15 hfns) rfl r15 (fun p h => (rH p h).up (by decide)) ck_divisor_of (ready_up r15)
  have r17 : ∀ p ∈ fns_17, ReadyAt P w K mg base (ctOf K) 18 p := ready_as F16 (PySem.W.mg_of X G a16_0) b16 (tp fns_16 hfns) rfl r16 (fun p h => (rH p h).up (by decide)) ck_last_of (ready_up r16)
  have r18 : ∀ p ∈ fns_18, ReadyAt P w K mg base (ctOf K) 19 p := ready_as F17 (PySem.W.mg_of X G a17_0) b17 (tp fns_17 hfns) rfl r17 (fun p h => (rH p h).up (by decide)) ck_crossed_2 (ready_up r17)
  have r19 : ∀ p ∈ fns_19, ReadyAt P w K mg base (ctOf K) 20 p := ready_as F18 (PySem.W.mg_of X G a18_0) b18 (tp fns_18 hfns) rfl r18 (fun p h => (rH p h).up (by decide)) ck_scale (ready_up r18)
  have r20 : ∀ p ∈ fns_20, ReadyAt P w K mg base (ctOf K) 21 p := ready_as F19 (PySem.W.mg_of X G a19_0) b19 (tp fns_19 hfns) rfl r19 (fun p h => (rH p h).up (by decide)) ck_mark (ready_up r19)
  have r21 : ∀ p ∈ fns_21, ReadyAt P w K mg base (ctOf K) 22 p := ready_as F20 (PySem.W.mg_of X G a20_0) b20 (tp fns_20 hfns) rfl r20 (fun p h => (rH p h).up (by decide)) ck_line_of (ready_up r20)
  have r22 : ∀ p ∈ fns_22, ReadyAt P w K mg base (ctOf K) 23 p := ready_as F21 (PySem.W.mg_of X G a21_0) b21 (tp fns_21 hfns) rfl r21 (fun p h => (rH p h).up (by decide)) ck_shared_by (ready_up r21)
  have r23 : ∀ p ∈ fns_23, ReadyAt P w K mg base (ctOf K) 24 p := ready_as F22 (PySem.W.mg_of X G a22_0) b22 (tp fns_22 hfns) rfl r22 (fun p h => (rH p h).up (by decide)) ck_chart (ready_up r22)
  have r24 : ∀ p ∈ fns_24, ReadyAt P w K mg base (ctOf K) 25 p := ready_as F23 (PySem.W.mg_of X G a23_0) b23 (tp fns_23 hfns) rfl r23 (fun p h => (rH p h).up (by decide)) ck_equation (ready_up r23)
  have r25 : ∀ p ∈ fns_25, ReadyAt P w K mg base (ctOf K) 26 p := ready_as F24 (PySem.W.mg_of X G a24_0) b24 (tp fns_24 hfns) rfl r24 (fun p h => (rH p h).up (by decide)) ck_plain (ready_up r24)
  have r26 : ∀ p ∈ fns_26, ReadyAt P w K mg base (ctOf K) 27 p := ready_as F25 (PySem.W.mg_of X G a25_0) b25 (tp fns_25 hfns) rfl r25 (fun p h => (rH p h).up (by decide)) ck_shared (ready_up r25)
  have r27 : ∀ p ∈ fns_27, ReadyAt P w K mg base (ctOf K) 28 p := ready_as F26 (PySem.W.mg_of X G a26_0) b26 (tp fns_26 hfns) rfl r26 (fun p h => (rH p h).up (by decide)) ck_rows_of (ready_up r26)
  have r28 : ∀ p ∈ fns_28, ReadyAt P w K mg base (ctOf K) 29 p := ready_as F27 (PySem.W.mg_of X G a27_0) b27 (tp fns_27 hfns) rfl r27 (fun p h => (rH p h).up (by decide)) ck_plane_map (ready_up r27)
  have r29 : ∀ p ∈ fns_29, ReadyAt P w K mg base (ctOf K) 30 p := ready_as F28 (PySem.W.mg_of X G a28_0) b28 (tp fns_28 hfns) rfl r28 (fun p h => (rH p h).up (by decide)) ck_led_triple (ready_up r28)
  have r30 : ∀ p ∈ fns_30, ReadyAt P w K mg base (ctOf K) 31 p := ready_as F29 (PySem.W.mg_of X G a29_0) b29 (tp fns_29 hfns) rfl r29 (fun p h => (rH p h).up (by decide)) ck_led_scale (ready_up r29)
  have r31 : ∀ p ∈ fns_31, ReadyAt P w K mg base (ctOf K) 32 p := ready_as F30 (PySem.W.mg_of X G a30_0) b30 (tp fns_30 hfns) rfl r30 (fun p h => (rH p h).up (by decide)) ck_led_chart (ready_up r30)
  have r32 : ∀ p ∈ fns_32, ReadyAt P w K mg base (ctOf K) 33 p := ready_as F31 (PySem.W.mg_of X G a31_0) b31 (tp fns_31 hfns) rfl r31 (fun p h => (rH p h).up (by decide)) ck_third_of (ready_up r31)
  have r33 : ∀ p ∈ fns_33, ReadyAt P w K mg base (ctOf K) 34 p := ready_as F32 (PySem.W.mg_of X G a32_0) b32 (tp fns_32 hfns) rfl r32 (fun p h => (rH p h).up (by decide)) ck_look_at_ranges (ready_up r32)
  have r34 : ∀ p ∈ fns_34, ReadyAt P w K mg base (ctOf K) 35 p := ready_as F33 (PySem.W.mg_of X G a33_0) b33 (tp fns_33 hfns) rfl r33 (fun p h => (rH p h).up (by decide)) ck_places_of (ready_up r33)
  have r35 : ∀ p ∈ fns_35, ReadyAt P w K mg base (ctOf K) 36 p := ready_as F34 (PySem.W.mg_of X G a34_0) b34 (tp fns_34 hfns) rfl r34 (fun p h => (rH p h).up (by decide)) ck_stretch_to (ready_up r34)
  have r36 : ∀ p ∈ fns_36, ReadyAt P w K mg base (ctOf K) 37 p := ready_as F35 (PySem.W.mg_of X G a35_0) b35 (tp fns_35 hfns) rfl r35 (fun p h => (rH p h).up (by decide)) ck_fit (ready_up r35)
  have r37 : ∀ p ∈ fns_37, ReadyAt P w K mg base (ctOf K) 38 p := ready_as F36 (PySem.W.mg_of X G a36_0) b36 (tp fns_36 hfns) rfl r36 (fun p h => (rH p h).up (by decide)) ck_fitted (ready_up r36)
  have r38 : ∀ p ∈ fns_38, ReadyAt P w K mg base (ctOf K) 39 p := ready_as F37 (PySem.W.mg_of X G a37_0) b37 (tp fns_37 hfns) rfl r37 (fun p h => (rH p h).up (by decide)) ck__law_cell_at (ready_up r37)
  have r39 : ∀ p ∈ fns_39, ReadyAt P w K mg base (ctOf K) 40 p := ready_as F38 (PySem.W.mg_of X G a38_0) b38 (tp fns_38 hfns) rfl r38 (fun p h => (rH p h).up (by decide)) ck__law_draws (ready_up r38)
  have r40 : ∀ p ∈ fns_40, ReadyAt P w K mg base (ctOf K) 41 p := ready_as F39 (PySem.W.mg_of X G a39_0) b39 (tp fns_39 hfns) rfl r39 (fun p h => (rH p h).up (by decide)) ck__law_divisor (ready_up r39)
  have r41 : ∀ p ∈ fns_41, ReadyAt P w K mg base (ctOf K) 42 p := ready_as F40 (PySem.W.mg_of X G a40_0) b40 (tp fns_40 hfns) rfl r40 (fun p h => (rH p h).up (by decide)) ck__law_lowest (ready_up r40)
  have r42 : ∀ p ∈ fns_42, ReadyAt P w K mg base (ctOf K) 43 p := ready_as F41 (PySem.W.mg_of X G a41_0) b41 (tp fns_41 hfns) rfl r41 (fun p h => (rH p h).up (by decide)) ck__law_plus (ready_up r41)
  have r43 : ∀ p ∈ fns_43, ReadyAt P w K mg base (ctOf K) 44 p := ready_as F42 (PySem.W.mg_of X G a42_0) b42 (tp fns_42 hfns) rfl r42 (fun p h => (rH p h).up (by decide)) ck__law_times (ready_up r42)
  have r44 : ∀ p ∈ fns_44, ReadyAt P w K mg base (ctOf K) 45 p := ready_as F43 (PySem.W.mg_of X G a43_0) b43 (tp fns_43 hfns) rfl r43 (fun p h => (rH p h).up (by decide)) ck__law_fraction (ready_up r43)
  have r45 : ∀ p ∈ fns_45, ReadyAt P w K mg base (ctOf K) 46 p := ready_as F44 (PySem.W.mg_of X G a44_0) b44 (tp fns_44 hfns) rfl r44 (fun p h => (rH p h).up (by decide)) ck__law_triple (ready_up r44)
  have r46 : ∀ p ∈ fns_46, ReadyAt P w K mg base (ctOf K) 47 p := ready_as F45 (PySem.W.mg_of X G a45_0) b45 (tp fns_45 hfns) rfl r45 (fun p h => (rH p h).up (by decide)) ck__law_crossed (ready_up r45)
  have r47 : ∀ p ∈ fns_47, ReadyAt P w K mg base (ctOf K) 48 p := ready_as F46 (PySem.W.mg_of X G a46_0) b46 (tp fns_46 hfns) rfl r46 (fun p h => (rH p h).up (by decide)) ck__law_scale (ready_up r46)
  have r48 : ∀ p ∈ fns_48, ReadyAt P w K mg base (ctOf K) 49 p := ready_as F47 (PySem.W.mg_of X G a47_0) b47 (tp fns_47 hfns) rfl r47 (fun p h => (rH p h).up (by decide)) ck__law_chart (ready_up r47)
  have r49 : ∀ p ∈ fns_49, ReadyAt P w K mg base (ctOf K) 50 p := ready_as F48 (PySem.W.mg_of X G a48_0) b48 (tp fns_48 hfns) rfl r48 (fun p h => (rH p h).up (by decide)) ck__law_ranges (ready_up r48)
  have r50 : ∀ p ∈ fns_50, ReadyAt P w K mg base (ctOf K) 51 p := ready_as F49 (PySem.W.mg_of X G a49_0) b49 (tp fns_49 hfns) rfl r49 (fun p h => (rH p h).up (by decide)) ck__law_third (ready_up r49)
  have r51 : ∀ p ∈ fns_51, ReadyAt P w K mg base (ctOf K) 52 p := ready_as F50 (PySem.W.mg_of X G a50_0) b50 (tp fns_50 hfns) rfl r50 (fun p h => (rH p h).up (by decide)) ck__law_which (ready_up r50)
  have r52 : ∀ p ∈ fns_52, ReadyAt P w K mg base (ctOf K) 53 p := ready_as F51 (PySem.W.mg_of X G a51_0) b51 (tp fns_51 hfns) rfl r51 (fun p h => (rH p h).up (by decide)) ck__law_between (ready_up r51)
  have r53 : ∀ p ∈ fns_53, ReadyAt P w K mg base (ctOf K) 54 p := ready_as F52 (PySem.W.mg_of X G a52_0) b52 (tp fns_52 hfns) rfl r52 (fun p h => (rH p h).up (by decide)) ck__law_on_the_sheet (ready_up r52)
  have r54 : ∀ p ∈ fns_54, ReadyAt P w K mg base (ctOf K) 55 p := ready_as F53 (PySem.W.mg_of X G a53_0) b53 (tp fns_53 hfns) rfl r53 (fun p h => (rH p h).up (by decide)) ck__law_borders (ready_up r53)
  have r55 : ∀ p ∈ fns_55, ReadyAt P w K mg base (ctOf K) 56 p := ready_as F54 (PySem.W.mg_of X G a54_0) b54 (tp fns_54 hfns) rfl r54 (fun p h => (rH p h).up (by decide)) ck__law_good (ready_up r54)
  exact def_ok F55 (tp fns_55 hfns) rfl r55 (fun p h => (rH p h).up (by decide)) ck_law
-- BEGIN
@[ext] structure M3 where
  a : V3
  b : V3
  c : V3
deriving DecidableEq
namespace M3
def li (m : M3) : List Int := [m.a.x, m.a.y, m.a.z, m.b.x, m.b.y, m.b.z, m.c.x, m.c.y, m.c.z]
def mt (m : M3) : D := .tup (m.li.map D.int)
def ml (m : M3) : D := .lst (m.li.map D.int)
def det (m : M3) : Int := V3.dt (V3.cr m.a m.b) m.c
def ld (m : M3) (x : V3) : V3 := ⟨V3.dt m.a x, V3.dt m.b x, V3.dt m.c x⟩
def tp (m : M3) : M3 := ⟨⟨m.a.x, m.b.x, m.c.x⟩, ⟨m.a.y, m.b.y, m.c.y⟩, ⟨m.a.z, m.b.z, m.c.z⟩⟩
def mul (m n : M3) : M3 := ⟨n.tp.ld m.a, n.tp.ld m.b, n.tp.ld m.c⟩
def adj (m : M3) : M3 := tp ⟨V3.cr m.b m.c, V3.cr m.c m.a, V3.cr m.a m.b⟩
def sm (k : Int) (m : M3) : M3 := ⟨V3.sm k m.a, V3.sm k m.b, V3.sm k m.c⟩
def one : M3 := ⟨⟨1, 0, 0⟩, ⟨0, 1, 0⟩, ⟨0, 0, 1⟩⟩
def nm (m : M3) : M3 := ⟨⟨m.a.x.fdiv (byL m.li), m.a.y.fdiv (byL m.li), m.a.z.fdiv (byL m.li)⟩, ⟨m.b.x.fdiv (byL m.li), m.b.y.fdiv (byL m.li), m.b.z.fdiv (byL m.li)⟩, ⟨m.c.x.fdiv (byL m.li), m.c.y.fdiv (byL m.li), m.c.z.fdiv (byL m.li)⟩⟩
def BM (n : Nat) (m : M3) : Prop := V3.BV n m.a ∧ V3.BV n m.b ∧ V3.BV n m.c
theorem nm_li (m : M3) : (nm m).li = nrm m.li := rfl
theorem sm_li (k : Int) (m : M3) : (sm k m).li = sc k m.li := rfl
theorem li_inj {m n : M3} (h : m.li = n.li) : m = n := by
  unfold li at h
  simp only [List.cons.injEq, and_true] at h
  obtain ⟨e1, e2, e3, e4, e5, e6, e7, e8, e9⟩ := h
  ext <;> assumption
theorem lz_det {m : M3} (h : m.det ≠ 0) : lz m.li ≠ 0 := fun z => h (by
  have all := lz_zero z
  have e1 := all m.a.x (by simp [li])
  have e2 := all m.a.y (by simp [li])
  have e3 := all m.a.z (by simp [li])
  unfold det V3.dt V3.cr
  dsimp only
  rw [e1, e2, e3]
  simp)
theorem nm_ex {m : M3} (h : m.det ≠ 0) : ∃ g : Int, g ≠ 0 ∧ m = sm g (nm m) :=
  ⟨byL m.li, byL_ne (lz_det h), li_inj (by rw [sm_li, nm_li, nrm_eq (lz_det h)])⟩
theorem nm_sm {k : Int} {m : M3} (hk : k ≠ 0) (h : m.det ≠ 0) : nm (sm k m) = nm m := li_inj (by rw [nm_li, sm_li, nrm_mul hk (lz_det h), nm_li])
theorem nm_nm {m : M3} (h : m.det ≠ 0) : nm (nm m) = nm m := li_inj (by rw [nm_li, nm_li, nrm_nrm (lz_det h)])
theorem det_sm (k : Int) (m : M3) : det (sm k m) = k * (k * (k * det m)) := by
  unfold det sm V3.dt V3.cr V3.sm; dsimp only; grind
theorem det_mul (m n : M3) : det (mul m n) = det m * det n := by
  unfold det mul tp ld V3.dt V3.cr; dsimp only; grind
theorem det_adj (m : M3) : det (adj m) = det m * det m := by
  unfold det adj tp V3.dt V3.cr; dsimp only; grind
theorem det_nm {m : M3} (h : m.det ≠ 0) : (nm m).det ≠ 0 := fun z => by
  obtain ⟨g, g0, e⟩ := nm_ex h
  rw [e, det_sm, z] at h
  simp at h
theorem det_ml {m n : M3} (h : m.det ≠ 0) (k : n.det ≠ 0) : (mul m n).det ≠ 0 := by rw [det_mul]; exact Int.mul_ne_zero h k
theorem det_ad {m : M3} (h : m.det ≠ 0) : (adj m).det ≠ 0 := by rw [det_adj]; exact Int.mul_ne_zero h h
theorem adj_adj (m : M3) : adj (adj m) = sm (det m) m := by
  unfold adj det sm tp V3.dt V3.cr V3.sm; ext <;> dsimp only <;> grind
theorem adj_mul (m n : M3) : adj (mul m n) = mul (adj n) (adj m) := by
  unfold adj mul tp ld V3.dt V3.cr; ext <;> dsimp only <;> grind
theorem adj_sm (k : Int) (m : M3) : adj (sm k m) = sm (k * k) (adj m) := by
  unfold adj sm tp V3.cr V3.sm; ext <;> dsimp only <;> grind
theorem mul_adj (m : M3) : mul m (adj m) = sm (det m) one := by
  unfold adj mul det sm one tp ld V3.dt V3.cr V3.sm; ext <;> dsimp only <;> grind
theorem adj_self (m : M3) : mul (adj m) m = sm (det m) one := by
  unfold adj mul det sm one tp ld V3.dt V3.cr V3.sm; ext <;> dsimp only <;> grind
theorem mul_assoc (m n p : M3) : mul (mul m n) p = mul m (mul n p) := by
  unfold mul tp ld V3.dt; ext <;> dsimp only <;> grind
theorem sm_mul (k : Int) (m n : M3) : mul (sm k m) n = sm k (mul m n) := by
  unfold mul sm tp ld V3.dt V3.sm; ext <;> dsimp only <;> grind
theorem mul_sm (k : Int) (m n : M3) : mul m (sm k n) = sm k (mul m n) := by
  unfold mul sm tp ld V3.dt V3.sm; ext <;> dsimp only <;> grind
theorem one_mul (m : M3) : mul one m = m := by
  unfold mul one tp ld V3.dt; ext <;> dsimp only <;> grind
theorem mul_one (m : M3) : mul m one = m := by
  unfold mul one tp ld V3.dt; ext <;> dsimp only <;> grind
theorem det_one : det one = 1 := by decide
theorem nm_one : nm one = one := by decide
theorem adj_one : adj one = one := by decide
theorem ld_one (x : V3) : ld one x = x := by
  unfold ld one V3.dt; ext <;> dsimp only <;> grind
theorem ld_mul (m n : M3) (x : V3) : ld (mul m n) x = ld m (ld n x) := by
  unfold mul tp ld V3.dt; ext <;> dsimp only <;> grind
theorem ld_sm (m : M3) (k : Int) (x : V3) : ld m (V3.sm k x) = V3.sm k (ld m x) := by
  unfold ld V3.dt V3.sm; ext <;> dsimp only <;> grind
theorem sm_ld (m : M3) (k : Int) (x : V3) : ld (sm k m) x = V3.sm k (ld m x) := by
  unfold ld sm V3.dt V3.sm; ext <;> dsimp only <;> grind
theorem ld_ad (m : M3) (x y : V3) : ld m (V3.ad x y) = V3.ad (ld m x) (ld m y) := by
  unfold ld V3.dt V3.ad; ext <;> dsimp only <;> grind
theorem sm_sm (k l : Int) (m : M3) : sm k (sm l m) = sm (k * l) m := by
  unfold sm V3.sm; ext <;> dsimp only <;> grind
theorem sm_one (m : M3) : sm 1 m = m := by
  unfold sm V3.sm; ext <;> dsimp only <;> grind
theorem ld_zero {m : M3} (h : m.det ≠ 0) {x : V3} (e : ld m x = .o3) : x = .o3 := by
  have k : V3.sm (det m) x = .o3 := by
    rw [← ld_one (V3.sm (det m) x), ld_sm, ← sm_ld, ← adj_self, ld_mul, e]
    unfold ld V3.o3 V3.dt
    simp
  have kx : det m * x.x = 0 := congrArg V3.x k
  have ky : det m * x.y = 0 := congrArg V3.y k
  have kz : det m * x.z = 0 := congrArg V3.z k
  exact V3.ext' ((Int.mul_eq_zero.mp kx).resolve_left h) ((Int.mul_eq_zero.mp ky).resolve_left h) ((Int.mul_eq_zero.mp kz).resolve_left h)
theorem ld_ne {m : M3} (h : m.det ≠ 0) {x : V3} (hx : x ≠ .o3) : ld m x ≠ .o3 := fun e => hx (ld_zero h e)
theorem nm_mul {m n : M3} (h : m.det ≠ 0) (k : n.det ≠ 0) : nm (mul (nm m) (nm n)) = nm (mul m n) := by
  obtain ⟨g, g0, e⟩ := nm_ex h
  obtain ⟨l, l0, f⟩ := nm_ex k
  conv => rhs; rw [e, f, sm_mul, mul_sm, sm_sm, nm_sm (Int.mul_ne_zero g0 l0) (det_ml (det_nm h) (det_nm k))]
theorem nm_mulL {m n : M3} (h : m.det ≠ 0) (k : n.det ≠ 0) : nm (mul (nm m) n) = nm (mul m n) := by
  obtain ⟨g, g0, e⟩ := nm_ex h
  conv => rhs; rw [e, sm_mul, nm_sm g0 (det_ml (det_nm h) k)]
theorem nm_mulR {m n : M3} (h : m.det ≠ 0) (k : n.det ≠ 0) : nm (mul m (nm n)) = nm (mul m n) := by
  obtain ⟨g, g0, e⟩ := nm_ex k
  conv => rhs; rw [e, mul_sm, nm_sm g0 (det_ml h (det_nm k))]
theorem nm_adj {m : M3} (h : m.det ≠ 0) : nm (adj (nm m)) = nm (adj m) := by
  obtain ⟨g, g0, e⟩ := nm_ex h
  conv => rhs; rw [e, adj_sm, nm_sm (Int.mul_ne_zero g0 g0) (det_ad (det_nm h))]
theorem nm_back {m : M3} (h : m.det ≠ 0) : nm (adj (nm (adj m))) = nm m := by
  rw [nm_adj (det_ad h), adj_adj, nm_sm h h]
theorem nm_away {m : M3} (h : m.det ≠ 0) : nm (mul (nm (adj m)) m) = one := by
  rw [nm_mulL (det_ad h) h, adj_self, nm_sm h (by decide), nm_one]
theorem nm_away' {m : M3} (h : m.det ≠ 0) : nm (mul m (nm (adj m))) = one := by
  rw [nm_mulR h (det_ad h), mul_adj, nm_sm h (by decide), nm_one]
theorem led_nm {m : M3} (h : m.det ≠ 0) {x : V3} (hx : x ≠ .o3) : (ld (nm m) x).nm = (ld m x).nm := by
  obtain ⟨g, g0, e⟩ := nm_ex h
  conv => rhs; rw [e, sm_ld, V3.nm_sm g0 (ld_ne (det_nm h) hx)]
theorem nm_led {m : M3} (h : m.det ≠ 0) {x : V3} (hx : x ≠ .o3) : (ld m x.nm).nm = (ld m x).nm := by
  obtain ⟨g, g0, e⟩ := V3.nm_ex hx
  conv => rhs; rw [e, ld_sm, V3.nm_sm g0 (ld_ne h (V3.nm_ne hx))]
theorem BM.mono {n k : Nat} {m : M3} (h : BM n m) (l : n ≤ k) : BM k m := ⟨h.1.mono l, h.2.1.mono l, h.2.2.mono l⟩
theorem BM.nm {n : Nat} {m : M3} (h : BM n m) : BM n (nm m) := ⟨⟨h.1.1.fdiv _, h.1.2.1.fdiv _, h.1.2.2.fdiv _⟩, ⟨h.2.1.1.fdiv _, h.2.1.2.1.fdiv _, h.2.1.2.2.fdiv _⟩, ⟨h.2.2.1.fdiv _, h.2.2.2.1.fdiv _, h.2.2.2.2.fdiv _⟩⟩
theorem BM.tp {n : Nat} {m : M3} (h : BM n m) : BM n (tp m) := ⟨⟨h.1.1, h.2.1.1, h.2.2.1⟩, ⟨h.1.2.1, h.2.1.2.1, h.2.2.2.1⟩, ⟨h.1.2.2, h.2.1.2.2, h.2.2.2.2⟩⟩
theorem BM.ld {n k : Nat} {m : M3} {x : V3} (h : BM n m) (hx : V3.BV k x) : V3.BV (n + k + 2) (ld m x) := ⟨h.1.dt hx, h.2.1.dt hx, h.2.2.dt hx⟩
theorem BM.mul {n k : Nat} {m p : M3} (h : BM n m) (hp : BM k p) : BM (n + k + 2) (mul m p) := by
  have l : k + n + 2 ≤ n + k + 2 := by omega
  exact ⟨(hp.tp.ld h.1).mono l, (hp.tp.ld h.2.1).mono l, (hp.tp.ld h.2.2).mono l⟩
theorem BM.adj {n : Nat} {m : M3} (h : BM n m) : BM (n + n + 1) (adj m) := BM.tp ⟨h.2.1.cr h.2.2, h.2.2.cr h.1, h.1.cr h.2.1⟩
theorem BM.li {n : Nat} {m : M3} (h : BM n m) : ∀ x ∈ m.li, B n x := by
  intro x hx
  unfold M3.li at hx
  simp only [List.mem_cons, List.not_mem_nil, or_false] at hx
  obtain ⟨⟨a1, a2, a3⟩, ⟨b1, b2, b3⟩, c1, c2, c3⟩ := h
  rcases hx with rfl | rfl | rfl | rfl | rfl | rfl | rfl | rfl | rfl <;> assumption
end M3
theorem whole_i (a : Int) : fn_is_whole [.int a] = .ok (.bl true) := by
  rw [fn_is_whole_eq]
  simp_arith [sh_is_whole, Ty.s]
-- fuel_divisor := fun δ => match δ[1]? with | some (Sl.va (D.int b)) => b.natAbs + 1 | _ => 0
theorem divisor_eq (a b : Int) : fn_divisor [.int a, .int b] = .ok (.int (Int.gcd a b)) := by
  rw [fn_divisor_eq]
  obtain ⟨g, e, q⟩ := gcd_loop (b.natAbs + 1) a b (Nat.lt_succ_self _)
  have e : sWhl [] fuel_divisor gcdC gcdB [.va (.int a), .va (.int b)] = .nx [.va (.int g), .va (.int 0)] := e
  show endD (bindS (sWhl [] fuel_divisor gcdC gcdB [.va (.int a), .va (.int b)]) _) = _
  rw [e, ← q]
  simp_arith []
  split <;> omega
theorem value_eq (a b : Int) (h : b ≠ 0) (hb : B 8000 b) : fn_value [.int a, .int b] = .ok (fr (Rat.divInt a b)) := by
  rw [fn_value_eq]
  unfold fr
  obtain ⟨e1, e2⟩ := fr_divInt (a := a) h
  have h1 : byQ a b ≠ 0 := byQ_ne h
  have h2 : B 8999 (byQ a b) := (byQ_B h hb).mono (by decide)
  have wa := whole_i a
  have wb := whole_i b
  have hc : ¬(a = 0 ∧ b = 0) := fun e => h e.2
  rw [e1, e2]
  by_cases hn : b < 0
  · have e : byQ a b = -(Int.gcd a b : Int) := if_pos hn
    have e' : 0 - (Int.gcd a b : Int) = byQ a b := by omega
    generalize byQ a b = y at *
    simp_arith [sh_value, divisor_eq, wa, wb, hn, e', fdivD_i, h]
  · have e : byQ a b = (Int.gcd a b : Int) := if_neg hn
    have ed := divisor_eq a b
    rw [← e] at ed
    have h0 : 0 ≤ byQ a b := by omega
    rw [Int.fdiv_eq_ediv_of_nonneg _ h0, Int.fdiv_eq_ediv_of_nonneg _ h0]
    generalize byQ a b = y at *
    simp_arith [sh_value, ed, wa, wb, hn, h]
theorem frac_eq (a b : Int) (h : b ≠ 0) (hb : B 8000 b) : fn_fraction [.int a, .int b] = .ok (fr (Rat.divInt a b)) := by
  rw [fn_fraction_eq]
  simp_arith [sh_fraction, whole_i, h, value_eq a b h hb]
theorem minus_eq (p q : Rat) (hp : BR 2000 p) (hq : BR 2000 q) : fn_minus [fr p, fr q] = .ok (fr (p - q)) := by
  rw [fn_minus_eq]
  obtain ⟨a1, a2⟩ := hp
  obtain ⟨b1, b2⟩ := hq
  have e := frac_eq (p.num * q.den - q.num * p.den) (p.den * q.den) (Int.mul_ne_zero (den_ne p) (den_ne q)) ((B.mul a2 b2).mono (by decide))
  rw [sub_divI] at e
  show endD (sh_minus [.va (.tup [.int p.num, .int p.den]), .va (.tup [.int q.num, .int q.den])]) = _
  simp_arith [sh_minus, e]
theorem times_eq (p q : Rat) (hp : BR 2000 p) (hq : BR 2000 q) : fn_times [fr p, fr q] = .ok (fr (p * q)) := by
  rw [fn_times_eq]
  obtain ⟨a1, a2⟩ := hp
  obtain ⟨b1, b2⟩ := hq
  have e := frac_eq (p.num * q.num) (p.den * q.den) (Int.mul_ne_zero (den_ne p) (den_ne q)) ((B.mul a2 b2).mono (by decide))
  rw [mul_divI] at e
  show endD (sh_times [.va (.tup [.int p.num, .int p.den]), .va (.tup [.int q.num, .int q.den])]) = _
  simp_arith [sh_times, e]
theorem over_eq (p q : Rat) (h : q ≠ 0) (hp : BR 2000 p) (hq : BR 2000 q) : fn_over [fr p, fr q] = .ok (fr (p / q)) := by
  rw [fn_over_eq]
  obtain ⟨a1, a2⟩ := hp
  obtain ⟨b1, b2⟩ := hq
  have q0 : q.num ≠ 0 := fun e => h (Rat.num_eq_zero.mp e)
  have e := frac_eq (p.num * q.den) (p.den * q.num) (Int.mul_ne_zero (den_ne p) q0) ((B.mul a2 b1).mono (by decide))
  rw [div_divI] at e
  show endD (sh_over [.va (.tup [.int p.num, .int p.den]), .va (.tup [.int q.num, .int q.den])]) = _
  simp_arith [sh_over, e]
theorem under_eq (p q : Rat) (hp : BR 2000 p) (hq : BR 2000 q) : fn_under [fr p, fr q] = .ok (.bl (decide (p < q))) := by
  rw [fn_under_eq]
  obtain ⟨a1, a2⟩ := hp
  obtain ⟨b1, b2⟩ := hq
  show endD (sh_under [.va (.tup [.int p.num, .int p.den]), .va (.tup [.int q.num, .int q.den])]) = _
  rw [show decide (p < q) = decide (p.num * q.den < q.num * p.den) from decide_eq_decide.mpr (Rat.lt_iff p q)]
  simp_arith [sh_under]
theorem is_triple_t (a : V3) (h : a ≠ .o3) : fn_is_triple [a.tr] = .ok (.bl true) := by
  rw [fn_is_triple_eq]
  have w := whole_i
  have c := V3.cop_ne_tr (p := a) (q := .o3)
  rw [decide_eq_false h] at c
  have c' : COp.fn .ne (.tup [.int a.x, .int a.y, .int a.z]) (.tup [.int 0, .int 0, .int 0]) = some (.bl true) := c
  show endD (sh_is_triple [.va (.tup [.int a.x, .int a.y, .int a.z]), .no]) = _
  have al : allL [.lst [.bl true, .bl true, .bl true]] = some (.bl true) := rfl
  simp_arith [-cop_ne_tt, sh_is_triple, ce1_is_triple, w, c', al, Ty.s]
theorem divided_eq (xs : List Int) (h : lz xs ≠ 0) (hb : ∀ x ∈ xs, B 8000 x) (hl : xs.length ≤ 1000) : fn_divided [.tup (xs.map D.int)] = .ok (.tup ((nrm xs).map D.int)) := by
  rw [fn_divided_eq]
  have lp : forF [2] (Tg.var 2).st lb1_divided (xs.map D.int) [.va (.tup (xs.map D.int)), .va (.int 0), .no, .no] = .nx [.va (.tup (xs.map D.int)), .va (.int (gl xs : Int)), .no, .no] := by
    have := forF_fold (ws := [2]) (g := (Tg.var 2).st) (b := lb1_divided) (fun g : Nat => [.va (.tup (xs.map D.int)), .va (.int (g : Int)), .no, .no]) (fun g x => Int.gcd g x) xs 0 (fun g x _ => by
      refine ⟨_, rfl, ?_⟩
      simp_arith [lb1_divided, divisor_eq, finK_nx])
    rw [gl_foldl0] at this
    exact this
  have c1 : ∀ y : Int, compF (Tg.var 2).st (some ct1_divided) ce1_divided [2] (xs.map D.int) [.va (.tup (xs.map D.int)), .va (.int y), .no, .no] = some ((xs.filter fun x => !decide (x = 0)).map D.int, [.va (.tup (xs.map D.int)), .va (.int y), .no, .no]) := fun y => by
    refine compF_filI fun x _ => ⟨[.va (.tup (xs.map D.int)), .va (.int y), .va (.int x), .no], rfl, [.va (.tup (xs.map D.int)), .va (.int y), .va (.int x), .no], ?_, rfl, [.va (.tup (xs.map D.int)), .va (.int y), .va (.int x), .no], rfl, rfl⟩
    simp_arith [ct1_divided]
  have c2 : ∀ l : D, compF (Tg.var 2).st none ce2_divided [2] (xs.map D.int) [.va (.tup (xs.map D.int)), .va (.int (byL xs)), .no, .va l] = some ((xs.map fun x => x.fdiv (byL xs)).map D.int, [.va (.tup (xs.map D.int)), .va (.int (byL xs)), .no, .va l]) := fun l => by
    have n0 := byL_ne h
    have nB : B 8999 (byL xs) := (B_byL h hb).mono (by decide)
    rw [List.map_map]
    refine compF_mapI fun x _ => ⟨[.va (.tup (xs.map D.int)), .va (.int (byL xs)), .va (.int x), .va l], rfl, [.va (.tup (xs.map D.int)), .va (.int (byL xs)), .va (.int x), .va l], ?_, rfl⟩
    have : fdivD (.int x) (.int (byL xs)) = some (.int (x.fdiv (byL xs))) := fdivD_i (divOk_B n0 nB)
    simp_arith [-fdivD_p, ce2_divided, this]
  have ha := lz_at h
  have hl' : xs.length ≤ 1000000 := by omega
  unfold nrm
  by_cases hn : lz xs < 0
  · have e : byL xs = -(gl xs : Int) := if_pos hn
    have e' : 0 - (gl xs : Int) = byL xs := by omega
    simp_arith [-atI_m1, sh_divided, sFor_, kFor_ok, lp, c1, c2, ha, hn, hl', e']
  · have e : byL xs = (gl xs : Int) := if_neg hn
    rw [← e] at lp
    simp_arith [-atI_m1, sh_divided, sFor_, kFor_ok, lp, c1, c2, ha, hn, hl']
theorem spot_eq (a : V3) (h : a ≠ .o3) (hb : V3.BV 8000 a) : fn_spot [a.tr] = .ok a.nm.tr := by
  rw [fn_spot_eq]
  have d : fn_divided [a.tr] = .ok a.nm.tr := divided_eq a.li (V3.lz_ne h) hb.li (by show (3 : Nat) ≤ 1000; decide)
  simp_arith [sh_spot, is_triple_t a h, d]
theorem crossed_eq (a b : V3) (ha : V3.BV 9000 a) (hb : V3.BV 9000 b) : fn_crossed [a.tr, b.tr] = .ok (V3.cr a b).tr := by
  rw [fn_crossed_eq]
  obtain ⟨a1, a2, a3⟩ := ha
  obtain ⟨b1, b2, b3⟩ := hb
  unfold V3.tr V3.cr
  simp_arith [sh_crossed]
theorem together_eq (a b : V3) (ha : V3.BV 19000 a) (hb : V3.BV 19000 b) : fn_together [a.tr, b.tr] = .ok (.int (V3.dt a b)) := by
  rw [fn_together_eq]
  obtain ⟨a1, a2, a3⟩ := ha
  obtain ⟨b1, b2, b3⟩ := hb
  unfold V3.tr V3.dt
  simp_arith [sh_together]
theorem det_eq (a b c : V3) (ha : V3.BV 6000 a) (hb : V3.BV 6000 b) (hc : V3.BV 6000 c) : fn_determinant [a.tr, b.tr, c.tr] = .ok (.int (V3.dt (V3.cr a b) c)) := by
  rw [fn_determinant_eq]
  simp_arith [sh_determinant, crossed_eq a b (ha.mono (by decide)) (hb.mono (by decide)), together_eq (V3.cr a b) c ((ha.cr hb).mono (by decide)) (hc.mono (by decide))]
theorem joined_eq (a b : V3) (h : a ≠ b) (h' : V3.cr a b ≠ .o3) (ha : V3.BV 3900 a) (hb : V3.BV 3900 b) : fn_joined [a.tr, b.tr] = .ok (V3.cr a b).nm.tr := by
  rw [fn_joined_eq]
  have c := V3.cop_eq_tr (p := a) (q := b)
  rw [decide_eq_false h] at c
  simp_arith [sh_joined, c, crossed_eq a b (ha.mono (by decide)) (hb.mono (by decide)), spot_eq (V3.cr a b) h' ((ha.cr hb).mono (by decide))]
-- fuel_shared := fun δ => match δ[3]? with | some (Sl.va (D.int b)) => b.natAbs + 1 | _ => 0
theorem sh_loop (L x : Sl) : ∀ (n f o : Nat), o < n → whileF [] lc1_shared lb2_shared n [L, .va (.int f), x, .va (.int o)] = .nx [L, .va (.int (Nat.gcd f o : Nat)), x, .va (.int 0)]
  | 0, f, o, h => absurd h (Nat.not_lt_zero _)
  | n + 1, f, o, h => by
    by_cases ho : o = 0
    · subst ho
      rw [whileF_end (δ1 := [L, .va (.int f), x, .va (.int (0 : Nat))]) (by simp_arith [lc1_shared])]
      simp
    · have h1 : f % o < o := Nat.mod_lt _ (by omega)
      have c1 : lc1_shared [L, .va (.int f), x, .va (.int o)] = .ok (.bl true) [L, .va (.int f), x, .va (.int o)] := by
        simp_arith [lc1_shared, ho]
      have c2 : lb2_shared [L, .va (.int f), x, .va (.int o)] = .nx [L, .va (.int o), x, .va (.int (f % o : Nat))] := by
        have : 0 < (o : Int) := by omega
        have m : modD (.int f) (.int o) = some (.int ((f % o : Nat) : Int)) := by rw [modD_p this]; rfl
        simp_arith [-modD_p, lb2_shared, m]
      rw [whileF_step c1 c2]
      show whileF [] _ _ n [L, .va (.int o), x, .va (.int (f % o : Nat))] = _
      rw [sh_loop L x n o (f % o) (by omega), Nat.gcd_comm o (f % o), Nat.gcd_comm f o]
      congr 6
      have := Nat.gcd_rec o f
      omega
theorem shared_x (X : D) (xs : List Int) (sq : ∀ δ, seqK (.ok X δ) = .ok (xs.map D.int) δ) : fn_shared [X] = .ok (.int (gl xs : Int)) := by
  rw [fn_shared_eq]
  have lp : forF [2, 3] (Tg.var 2).st lb1_shared (xs.map D.int) [.va X, .va (.int 0), .no, .no] = .nx [.va X, .va (.int (gl xs : Int)), .no, .no] := by
    have := forF_fold (ws := [2, 3]) (g := (Tg.var 2).st) (b := lb1_shared) (fun g : Nat => [.va X, .va (.int (g : Int)), .no, .no]) (fun g x => Int.gcd g x) xs 0 (fun g x _ => by
      refine ⟨[.va X, .va (.int (g : Int)), .va (.int x), .no], rfl, ?_⟩
      have lp := sh_loop (.va X) (.va (.int x)) (x.natAbs + 1) g x.natAbs (Nat.lt_succ_self _)
      have ab : absL [.int x] = some (.int (x.natAbs : Nat)) := by rw [abs_i]; congr 2; split <;> omega
      have fu : fuel_shared [.va X, .va (.int (g : Int)), .va (.int x), .va (.int (x.natAbs : Nat))] = x.natAbs + 1 := by
        show ((x.natAbs : Nat) : Int).natAbs + 1 = _
        simp
      simp_arith [-abs_i, lb1_shared, sWhl_, ab, fu, lp, finK_nx]
      rfl)
    rw [gl_foldl0] at this
    exact this
  simp_arith [sh_shared, sFor_, kFor_ok, lp, sq]
theorem rows_l (m : M3) : fn_rows_of [m.ml] = .ok (.lst [m.a.tr, m.b.tr, m.c.tr]) := by
  rw [fn_rows_of_eq]
  have s1 : slD m.ml (some 0) (some 3) = some (.lst [.int m.a.x, .int m.a.y, .int m.a.z]) := rfl
  have s2 : slD m.ml (some 3) (some 6) = some (.lst [.int m.b.x, .int m.b.y, .int m.b.z]) := rfl
  have s3 : slD m.ml (some 6) (some 9) = some (.lst [.int m.c.x, .int m.c.y, .int m.c.z]) := rfl
  have t : ∀ v : V3, tupL [.lst [.int v.x, .int v.y, .int v.z]] = some v.tr := fun v => rfl
  have t1 := t m.a
  have t2 := t m.b
  have t3 := t m.c
  generalize m.ml = X at *
  simp_arith [-tup_l, sh_rows_of, ce1_rows_of, rngK_1, rngD_0, rngD_s, s1, s2, s3, t1, t2, t3]
theorem rows_t (m : M3) : fn_rows_of [m.mt] = .ok (.lst [m.a.tr, m.b.tr, m.c.tr]) := by
  rw [fn_rows_of_eq]
  have s1 : slD m.mt (some 0) (some 3) = some m.a.tr := rfl
  have s2 : slD m.mt (some 3) (some 6) = some m.b.tr := rfl
  have s3 : slD m.mt (some 6) (some 9) = some m.c.tr := rfl
  have t : ∀ v : V3, tupL [v.tr] = some v.tr := fun v => rfl
  generalize m.mt = X at *
  simp_arith [sh_rows_of, ce1_rows_of, rngK_1, rngD_0, rngD_s, s1, s2, s3, t]
theorem plane_map_x (X : D) (m : M3) (is : isi2D "list" "tuple" X = some (.bl true)) (le : lenL [X] = some (.int 9)) (sq : ∀ δ, seqK (.ok X δ) = .ok (m.li.map D.int) δ) (r : fn_rows_of [X] = .ok (.lst [m.a.tr, m.b.tr, m.c.tr])) (h : m.det ≠ 0) (hb : M3.BM 6000 m) : fn_plane_map [X] = .ok m.nm.mt := by
  rw [fn_plane_map_eq]
  have d := det_eq m.a m.b m.c hb.1 hb.2.1 hb.2.2
  have h' : V3.dt (V3.cr m.a m.b) m.c ≠ 0 := h
  have l0 := M3.lz_det h
  have bb : ∀ x ∈ m.li, B 8000 x := (hb.mono (by decide)).li
  have al : allL [.lst (m.li.map fun _ => D.bl true)] = some (.bl true) := rfl
  have hl : m.li.length ≤ 1000000 := by show (9 : Nat) ≤ 1000000; decide
  have sh := shared_x X m.li sq
  have w := whole_i
  have t : m.nm.mt = .tup ((nrm m.li).map D.int) := rfl
  rw [t]
  clear t h
  generalize m.li = xs at *
  generalize V3.dt (V3.cr m.a m.b) m.c = Dt at *
  generalize m.a.tr = r1 at *
  generalize m.b.tr = r2 at *
  generalize m.c.tr = r3 at *
  have n0 := byL_ne l0
  have nB : B 8999 (byL xs) := (B_byL l0 bb).mono (by decide)
  have c0 : ∀ (s0 s1 s2 s3 s4 s5 : Sl), compF (Tg.var 6).st none ce1_plane_map [6] (xs.map D.int) [s0, s1, s2, s3, s4, s5, .no] = some (xs.map fun _ => D.bl true, [s0, s1, s2, s3, s4, s5, .no]) := fun s0 s1 s2 s3 s4 s5 => by
    refine compF_mapI fun x _ => ⟨[s0, s1, s2, s3, s4, s5, .va (.int x)], rfl, [s0, s1, s2, s3, s4, s5, .va (.int x)], ?_, rfl⟩
    simp_arith [ce1_plane_map, w]
  have c1 : ∀ (s0 s1 s2 s3 s4 s6 : Sl), compF (Tg.var 5).st (some ct1_plane_map) ce2_plane_map [5] (xs.map D.int) [s0, s1, s2, s3, s4, .no, s6] = some ((xs.filter fun x => !decide (x = 0)).map D.int, [s0, s1, s2, s3, s4, .no, s6]) := fun s0 s1 s2 s3 s4 s6 => by
    refine compF_filI fun x _ => ⟨[s0, s1, s2, s3, s4, .va (.int x), s6], rfl, [s0, s1, s2, s3, s4, .va (.int x), s6], ?_, rfl, [s0, s1, s2, s3, s4, .va (.int x), s6], rfl, rfl⟩
    simp_arith [ct1_plane_map]
  have c2 : ∀ (s0 s2 s3 s4 s6 : Sl), compF (Tg.var 5).st none ce3_plane_map [5] (xs.map D.int) [s0, .va (.int (byL xs)), s2, s3, s4, .no, s6] = some ((xs.map fun x => x.fdiv (byL xs)).map D.int, [s0, .va (.int (byL xs)), s2, s3, s4, .no, s6]) := fun s0 s2 s3 s4 s6 => by
    rw [List.map_map]
    refine compF_mapI fun x _ => ⟨[s0, .va (.int (byL xs)), s2, s3, s4, .va (.int x), s6], rfl, [s0, .va (.int (byL xs)), s2, s3, s4, .va (.int x), s6], ?_, rfl⟩
    have : fdivD (.int x) (.int (byL xs)) = some (.int (x.fdiv (byL xs))) := fdivD_i (divOk_B n0 nB)
    simp_arith [-fdivD_p, ce3_plane_map, this]
  have la := lz_at l0
  unfold nrm
  by_cases hn : lz xs < 0
  · have e : byL xs = -(gl xs : Int) := if_pos hn
    have e' : 0 - (gl xs : Int) = byL xs := by omega
    simp_arith [-atI_m1, sh_plane_map, is, le, al, sq, sh, c0, c1, c2, la, hn, hl, e', r, d, h', Ty.s]
  · have e : byL xs = (gl xs : Int) := if_neg hn
    rw [← e] at sh
    simp_arith [-atI_m1, sh_plane_map, is, le, al, sq, sh, c0, c1, c2, la, hn, hl, r, d, h', Ty.s]
theorem plane_map_l (m : M3) (h : m.det ≠ 0) (hb : M3.BM 6000 m) : fn_plane_map [m.ml] = .ok m.nm.mt := plane_map_x m.ml m rfl rfl (fun _ => rfl) (rows_l m) h hb
theorem plane_map_t (m : M3) (h : m.det ≠ 0) (hb : M3.BM 6000 m) : fn_plane_map [m.mt] = .ok m.nm.mt := plane_map_x m.mt m rfl rfl (fun _ => rfl) (rows_t m) h hb
theorem cop_mt (m n : M3) : COp.fn .eq m.mt n.mt = some (.bl (decide (m = n))) ∧ COp.fn .ne m.mt n.mt = some (.bl (!decide (m = n))) := by
  have sh : ∀ (k : Nat) (m : M3), shps (k + 1) (m.li.map D.int) = true := fun k m => shps_ints
  have e : eqs (m.li.map D.int) (n.li.map D.int) = decide (m = n) := by
    unfold M3.li
    simp only [List.map_cons, List.map_nil, eqs_cc, eqs_nn, eq1_ii, Bool.and_true]
    rw [Bool.eq_iff_iff]
    simp only [Bool.and_eq_true, decide_eq_true_eq]
    constructor
    · rintro ⟨e1, e2, e3, e4, e5, e6, e7, e8, e9⟩
      ext <;> assumption
    · rintro rfl
      exact ⟨rfl, rfl, rfl, rfl, rfl, rfl, rfl, rfl, rfl⟩
  unfold M3.mt
  constructor
  · rw [cop_eq_tt (by rw [shp_t]; exact sh _ m) (by rw [shp_t]; exact sh _ n), e]
  · rw [cop_ne_tt (by rw [shp_t]; exact sh _ m) (by rw [shp_t]; exact sh _ n), e]
theorem sum3 (x y : V3) : sumL [.lst [.int (x.x * y.x), .int (x.y * y.y), .int (x.z * y.z)]] = some (.int (V3.dt x y)) := by
  show some (D.int (x.x * y.x + (x.y * y.y + (x.z * y.z + 0)))) = _
  unfold V3.dt
  congr 2
  omega
theorem led_row (s0 : Sl) (x r : V3) (ds : List D) (hr : V3.BV 9000 r) (hx : V3.BV 9000 x) (hl : ds.length < 1000) : lb1_led_triple [s0, .va x.tr, .ow (.lst ds), .va r.tr, .no, .no] = .nx [s0, .va x.tr, .ow (.lst (ds ++ [.int (V3.dt r x)])), .va r.tr, .no, .no] := by
  have z : zipL [r.tr, x.tr] = some [.tup [.int r.x, .int x.x], .tup [.int r.y, .int x.y], .tup [.int r.z, .int x.z]] := rfl
  have sm := sum3 r x
  obtain ⟨r1, r2, r3⟩ := hr
  obtain ⟨x1, x2, x3⟩ := hx
  have hl' : ds.length < 1000000 := by omega
  generalize x.tr = X at *
  generalize r.tr = R at *
  simp_arith [lb1_led_triple, ce1_led_triple, z, sm, hl']
theorem led_triple_eq (m : M3) (x : V3) (hm : M3.BM 9000 m) (hx : V3.BV 9000 x) : fn_led_triple [m.mt, x.tr] = .ok (m.ld x).tr := by
  rw [fn_led_triple_eq]
  have r := rows_t m
  obtain ⟨ha, hb, hc⟩ := hm
  generalize m.mt = X at *
  have lp : forF [3] (Tg.var 3).st lb1_led_triple [m.a.tr, m.b.tr, m.c.tr] [.va X, .va x.tr, .ow (.lst []), .no, .no, .no] = .nx [.va X, .va x.tr, .ow (.lst [.int (V3.dt m.a x), .int (V3.dt m.b x), .int (V3.dt m.c x)]), .no, .no, .no] := by
    rw [forF_step rfl (led_row _ x m.a [] ha hx (by decide))]
    show forF _ _ _ [m.b.tr, m.c.tr] [.va X, .va x.tr, .ow (.lst ([] ++ [.int (V3.dt m.a x)])), .no, .no, .no] = _
    rw [forF_step rfl (led_row _ x m.b _ hb hx (by show (1 : Nat) < 1000; decide))]
    show forF _ _ _ [m.c.tr] [.va X, .va x.tr, .ow (.lst ([] ++ [.int (V3.dt m.a x)] ++ [.int (V3.dt m.b x)])), .no, .no, .no] = _
    rw [forF_step rfl (led_row _ x m.c _ hc hx (by show (2 : Nat) < 1000; decide))]
    rfl
  have t : tupL [.lst [.int (V3.dt m.a x), .int (V3.dt m.b x), .int (V3.dt m.c x)]] = some (m.ld x).tr := rfl
  generalize (m.ld x).tr = R at *
  generalize m.a.tr = r1 at *
  generalize m.b.tr = r2 at *
  generalize m.c.tr = r3 at *
  generalize x.tr = X0 at *
  simp_arith [-tup_l, sh_led_triple, sFor_, kFor_ok, r, lp, t]
theorem eq1_refl : ∀ (n : Nat) (d : D), shp n d = true → eq1 d d = true := by
  have all : ∀ (n : Nat), (∀ d, shp n d = true → eq1 d d = true) → ∀ ds : List D, shps n ds = true → eqs ds ds = true := fun n h ds => by
    induction ds with
    | nil => intro _; exact eqs_nn
    | cons d ds ih =>
      intro hs
      rw [shps_c, Bool.and_eq_true] at hs
      rw [eqs_cc, h d hs.1, ih hs.2]
      rfl
  intro n
  induction n with
  | zero =>
    intro d h
    cases d with
    | int i => rw [eq1_ii, decide_eq_true rfl]
    | bl b => rw [eq1_bb, decide_eq_true rfl]
    | str x => rw [eq1_ss]; simp
    | non => exact eq1_nn
    | tup a => unfold shp at h; cases h
    | lst a => unfold shp at h; cases h
    | dic _ _ => unfold shp at h; cases h
    | exc _ => unfold shp at h; cases h
  | succ n ih =>
    intro d h
    cases d with
    | int i => rw [eq1_ii, decide_eq_true rfl]
    | bl b => rw [eq1_bb, decide_eq_true rfl]
    | str x => rw [eq1_ss]; simp
    | non => exact eq1_nn
    | tup a => rw [shp_t] at h; rw [eq1_tt]; exact all n ih a h
    | lst a => rw [shp_l] at h; rw [eq1_ll]; exact all n ih a h
    | dic _ _ => unfold shp at h; cases h
    | exc _ => unfold shp at h; cases h
theorem cop_eq_refl {d : D} (h : shp 64 d = true) : COp.fn .eq d d = some (.bl true) := by rw [cop_eq (eqD_shp h h), eq1_refl 64 d h]
theorem cop_ne_refl {d : D} (h : shp 64 d = true) : COp.fn .ne d d = some (.bl false) := by rw [cop_ne (eqD_shp h h), eq1_refl 64 d h]; rfl
def vl (u v : Int) : D := .tup [.int u, .int v]
def IsV (u v : Int) : Prop := (u = 1 ∧ v = 0) ∨ ∃ q : Rat, u = q.num ∧ v = q.den
theorem IsV.ne {u v : Int} (h : IsV u v) : ¬(u = 0 ∧ v = 0) := by
  rcases h with ⟨rfl, rfl⟩ | ⟨q, rfl, rfl⟩
  · simp
  · intro e
    exact den_ne q e.2
theorem gl2 (a b : Int) : gl [a, b] = Int.gcd a b := by
  show Int.gcd a (Int.gcd b 0) = _
  simp [Int.gcd]
theorem IsV.far : IsV 1 0 := .inl ⟨rfl, rfl⟩
theorem IsV.of (q : Rat) : IsV q.num q.den := .inr ⟨q, rfl, rfl⟩
/-- what a value's parts are told by -/
theorem IsV.par {f g a b : Int} (h : IsV f g) (e : f * b = a * g) : ∃ k : Int, a = k * f ∧ b = k * g := by
  have c : Int.gcd f g = 1 := by
    rcases h with ⟨rfl, rfl⟩ | ⟨q, rfl, rfl⟩
    · decide
    · exact q.reduced
  have d : f ∣ a := by
    have : f ∣ a * g := ⟨b, e.symm⟩
    have h2 : f.natAbs ∣ a.natAbs * g.natAbs := by rw [← Int.natAbs_mul]; exact Int.natAbs_dvd_natAbs.mpr this
    exact Int.natAbs_dvd_natAbs.mp (Nat.Coprime.dvd_of_dvd_mul_right c h2)
  obtain ⟨k, hk⟩ := d
  by_cases h0 : f = 0
  · subst h0
    have g1 : g.natAbs = 1 := by simpa using c
    have a0 : a = 0 := by simpa using hk
    rcases Int.natAbs_eq_iff.mp g1 with z | z
    · exact ⟨b, by rw [a0]; simp, by rw [z]; simp⟩
    · exact ⟨-b, by rw [a0]; simp, by rw [z]; simp⟩
  · refine ⟨k, by rw [hk, Int.mul_comm], ?_⟩
    have : f * (b - k * g) = 0 := by rw [hk] at e; grind
    rcases Int.mul_eq_zero.mp this with z | z
    · exact absurd z h0
    · omega
theorem B.of_mul {n : Nat} {k f : Int} (hk : k ≠ 0) (h : B n (k * f)) : B n f := by
  unfold B at *
  rw [Int.natAbs_mul] at h
  have : 1 ≤ k.natAbs := by omega
  exact Nat.lt_of_le_of_lt (Nat.le_mul_of_pos_left _ this) h
theorem IsV.bd {n : Nat} {f g a b : Int} (h : IsV f g) (e : f * b = a * g) (h0 : ¬(a = 0 ∧ b = 0)) (ha : B n a) (hb : B n b) : B n f ∧ B n g := by
  obtain ⟨k, e1, e2⟩ := h.par e
  have k0 : k ≠ 0 := fun z => h0 ⟨by rw [e1, z]; simp, by rw [e2, z]; simp⟩
  rw [e1] at ha
  rw [e2] at hb
  exact ⟨B.of_mul k0 ha, B.of_mul k0 hb⟩
theorem IsV.uniq {u v u' v' : Int} (h : IsV u v) (h' : IsV u' v') (e : u * v' = u' * v) : u = u' ∧ v = v' := by
  rcases h with ⟨rfl, rfl⟩ | ⟨q, rfl, rfl⟩ <;> rcases h' with ⟨rfl, rfl⟩ | ⟨q', rfl, rfl⟩
  · exact ⟨rfl, rfl⟩
  · have := den_ne q'; omega
  · have := den_ne q; omega
  · have : Rat.divInt q.num q.den = Rat.divInt q'.num q'.den := (Rat.divInt_eq_divInt_iff (den_ne q) (den_ne q')).mpr e
    rw [Rat.num_divInt_den, Rat.num_divInt_den] at this
    subst this
    exact ⟨rfl, rfl⟩
theorem IsV.pos {u v : Int} (h : IsV u v) : 0 ≤ v ∧ (v = 0 → u = 1) ∧ gl [u, v] = 1 := by
  rcases h with ⟨rfl, rfl⟩ | ⟨q, rfl, rfl⟩
  · exact ⟨by omega, fun _ => rfl, rfl⟩
  · have := den_pos' q
    refine ⟨by omega, fun z => by omega, ?_⟩
    rw [gl2]
    exact q.reduced
def mk (p q : V3) (u v : Int) : V3 := ⟨v * p.x + u * q.x, v * p.y + u * q.y, v * p.z + u * q.z⟩
theorem mk_ne {p q : V3} {u v : Int} (h : V3.cr p q ≠ .o3) (h' : ¬(u = 0 ∧ v = 0)) : mk p q u v ≠ .o3 := fun e => by
  have e1 : v * p.x + u * q.x = 0 := congrArg V3.x e
  have e2 : v * p.y + u * q.y = 0 := congrArg V3.y e
  have e3 : v * p.z + u * q.z = 0 := congrArg V3.z e
  have hv : V3.sm v (V3.cr p q) = .o3 := by unfold V3.sm V3.cr V3.o3; ext <;> dsimp only <;> grind
  have hu : V3.sm u (V3.cr p q) = .o3 := by unfold V3.sm V3.cr V3.o3; ext <;> dsimp only <;> grind
  by_cases v0 : v = 0
  · exact V3.sm_ne (fun u0 => h' ⟨u0, v0⟩) h hu
  · exact V3.sm_ne v0 h hv
theorem mk_B {n m : Nat} {p q : V3} {u v : Int} (hp : V3.BV n p) (hq : V3.BV n q) (hu : B m u) (hv : B m v) : V3.BV (n + m + 1) (mk p q u v) := by
  refine ⟨?_, ?_, ?_⟩
  · apply (B.add (B.mul hv hp.1) (B.mul hu hq.1)).mono; omega
  · apply (B.add (B.mul hv hp.2.1) (B.mul hu hq.2.1)).mono; omega
  · apply (B.add (B.mul hv hp.2.2) (B.mul hu hq.2.2)).mono; omega
theorem mk_line (p q : V3) (u v : Int) : V3.dt (mk p q u v) (V3.cr p q) = 0 := by unfold mk V3.dt V3.cr; dsimp only; grind
theorem cr_ne1 {a b : V3} (h : V3.cr a b ≠ .o3) : a ≠ .o3 := fun z => h (by rw [z, V3.o3_cr])
theorem cr_ne2 {a b : V3} (h : V3.cr a b ≠ .o3) : b ≠ .o3 := fun z => h (by rw [z, V3.cr_o3])
theorem nm_eq_cr {a b : V3} (ha : a ≠ .o3) (hb : b ≠ .o3) (e : a.nm = b.nm) : V3.cr a b = .o3 := by
  obtain ⟨g, _, e1⟩ := V3.nm_ex ha
  obtain ⟨k, _, e2⟩ := V3.nm_ex hb
  rw [e1, e2, e, V3.sm_cr, V3.cr_sm, V3.cr_self]
  unfold V3.sm V3.o3; simp
theorem last_of_eq (xs : List Int) (h : lz xs ≠ 0) (hl : xs.length ≤ 1000) : fn_last_of [.tup (xs.map D.int)] = .ok (.int (lz xs)) := by
  rw [fn_last_of_eq]
  have c1 : compF (Tg.var 1).st (some ct1_last_of) ce1_last_of [1] (xs.map D.int) [.va (.tup (xs.map D.int)), .no] = some ((xs.filter fun x => !decide (x = 0)).map D.int, [.va (.tup (xs.map D.int)), .no]) := by
    refine compF_filI fun x _ => ⟨[.va (.tup (xs.map D.int)), .va (.int x)], rfl, [.va (.tup (xs.map D.int)), .va (.int x)], ?_, rfl, [.va (.tup (xs.map D.int)), .va (.int x)], rfl, rfl⟩
    simp_arith [ct1_last_of]
  have ha := lz_at h
  have hl' : xs.length ≤ 1000000 := by omega
  simp_arith [-atI_m1, sh_last_of, c1, ha, hl']
def n61 (p q : V3) : V3 := ⟨p.x.fdiv (byL (p.li ++ q.li)), p.y.fdiv (byL (p.li ++ q.li)), p.z.fdiv (byL (p.li ++ q.li))⟩
def n62 (p q : V3) : V3 := ⟨q.x.fdiv (byL (p.li ++ q.li)), q.y.fdiv (byL (p.li ++ q.li)), q.z.fdiv (byL (p.li ++ q.li))⟩
theorem n6_li (p q : V3) : nrm (p.li ++ q.li) = (n61 p q).li ++ (n62 p q).li := rfl
theorem lz6 {p q : V3} (h : V3.cr p q ≠ .o3) : lz (p.li ++ q.li) ≠ 0 := by
  have p0 : p ≠ .o3 := fun z => h (by rw [z, V3.o3_cr])
  have := V3.lz_ne p0
  exact lz_ne (List.mem_append_left _ (lz_mem this)) this
theorem n6_eq {p q : V3} (h : V3.cr p q ≠ .o3) : p = V3.sm (byL (p.li ++ q.li)) (n61 p q) ∧ q = V3.sm (byL (p.li ++ q.li)) (n62 p q) ∧ byL (p.li ++ q.li) ≠ 0 := by
  have e := nrm_eq (lz6 h)
  rw [n6_li] at e
  refine ⟨V3.li_inj ?_, V3.li_inj ?_, byL_ne (lz6 h)⟩
  · have := congrArg (List.take 3) e
    exact this.symm
  · have := congrArg (List.drop 3) e
    exact this.symm
theorem n6_cr {p q : V3} (h : V3.cr p q ≠ .o3) : V3.cr (n61 p q) (n62 p q) ≠ .o3 := fun z => by
  obtain ⟨e1, e2, _⟩ := n6_eq h
  apply h
  rw [e1, e2, V3.sm_cr, V3.cr_sm]
  generalize byL (p.li ++ q.li) = g at *
  have : V3.cr (n61 (V3.sm g (n61 p q)) (V3.sm g (n62 p q))) (n62 (V3.sm g (n61 p q)) (V3.sm g (n62 p q))) = .o3 := by rw [← e1, ← e2]; exact z
  rw [← e1, ← e2] at *
  rw [z]
  unfold V3.sm V3.o3; simp
theorem n6_B {n : Nat} {p q : V3} (hp : V3.BV n p) (hq : V3.BV n q) : V3.BV n (n61 p q) ∧ V3.BV n (n62 p q) :=
  ⟨⟨hp.1.fdiv _, hp.2.1.fdiv _, hp.2.2.fdiv _⟩, hq.1.fdiv _, hq.2.1.fdiv _, hq.2.2.fdiv _⟩
-- fuel_divisor_of := fun δ => match δ[3]? with | some (Sl.va (D.int b)) => b.natAbs + 1 | _ => 0
theorem gdivisor_of_loop (L x : Sl) : ∀ (n f o : Nat), o < n → whileF [] lc1_divisor_of lb2_divisor_of n [L, .va (.int f), x, .va (.int o)] = .nx [L, .va (.int (Nat.gcd f o : Nat)), x, .va (.int 0)]
  | 0, f, o, h => absurd h (Nat.not_lt_zero _)
  | n + 1, f, o, h => by
    by_cases ho : o = 0
    · subst ho
      rw [whileF_end (δ1 := [L, .va (.int f), x, .va (.int (0 : Nat))]) (by simp_arith [lc1_divisor_of])]
      simp
    · have h1 : f % o < o := Nat.mod_lt _ (by omega)
      have c1 : lc1_divisor_of [L, .va (.int f), x, .va (.int o)] = .ok (.bl true) [L, .va (.int f), x, .va (.int o)] := by
        have : 0 < (o : Int) := by omega
        simp_arith [lc1_divisor_of, this]
        omega
      have c2 : lb2_divisor_of [L, .va (.int f), x, .va (.int o)] = .nx [L, .va (.int o), x, .va (.int (f % o : Nat))] := by
        have : 0 < (o : Int) := by omega
        have m : modD (.int f) (.int o) = some (.int ((f % o : Nat) : Int)) := by rw [modD_p this]; rfl
        simp_arith [-modD_p, lb2_divisor_of, m]
      rw [whileF_step c1 c2]
      show whileF [] _ _ n [L, .va (.int o), x, .va (.int (f % o : Nat))] = _
      rw [gdivisor_of_loop L x n o (f % o) (by omega), Nat.gcd_comm o (f % o), Nat.gcd_comm f o]
      congr 6
      have := Nat.gcd_rec o f
      omega
theorem gdivisor_of_for (L : Sl) (xs : List Int) : forF [2, 3] (Tg.var 2).st lb1_divisor_of (xs.map D.int) [L, .va (.int 0), .no, .no] = .nx [L, .va (.int (gl xs : Int)), .no, .no] := by
  have := forF_fold (ws := [2, 3]) (g := (Tg.var 2).st) (b := lb1_divisor_of) (fun g : Nat => [L, .va (.int (g : Int)), .no, .no]) (fun g x => Int.gcd g x) xs 0 (fun g x _ => by
    refine ⟨[L, .va (.int (g : Int)), .va (.int x), .no], rfl, ?_⟩
    have lp := gdivisor_of_loop L (.va (.int x)) (x.natAbs + 1) g x.natAbs (Nat.lt_succ_self _)
    have ab : absL [.int x] = some (.int (x.natAbs : Nat)) := by rw [abs_i]; congr 2; split <;> omega
    have fu : fuel_divisor_of [L, .va (.int (g : Int)), .va (.int x), .va (.int (x.natAbs : Nat))] = x.natAbs + 1 := by
      show ((x.natAbs : Nat) : Int).natAbs + 1 = _
      simp
    simp_arith [-abs_i, lb1_divisor_of, sWhl_, ab, fu, lp, finK_nx]
    rfl)
  rw [gl_foldl0] at this
  exact this
theorem gdivisor_of_t (xs : List Int) : fn_divisor_of [.tup (xs.map D.int)] = .ok (.int (gl xs : Int)) := by
  rw [fn_divisor_of_eq]
  simp_arith [sh_divisor_of, sFor_, kFor_ok, gdivisor_of_for]
theorem gdivisor_of_l (xs : List Int) : fn_divisor_of [.lst (xs.map D.int)] = .ok (.int (gl xs : Int)) := by
  rw [fn_divisor_of_eq]
  simp_arith [sh_divisor_of, sFor_, kFor_ok, gdivisor_of_for]
-- fuel_shared_by := fun δ => match δ[3]? with | some (Sl.va (D.int b)) => b.natAbs + 1 | _ => 0
theorem gshared_by_loop (L x : Sl) : ∀ (n f o : Nat), o < n → whileF [] lc1_shared_by lb2_shared_by n [L, .va (.int f), x, .va (.int o)] = .nx [L, .va (.int (Nat.gcd f o : Nat)), x, .va (.int 0)]
  | 0, f, o, h => absurd h (Nat.not_lt_zero _)
  | n + 1, f, o, h => by
    by_cases ho : o = 0
    · subst ho
      rw [whileF_end (δ1 := [L, .va (.int f), x, .va (.int (0 : Nat))]) (by simp_arith [lc1_shared_by])]
      simp
    · have h1 : f % o < o := Nat.mod_lt _ (by omega)
      have c1 : lc1_shared_by [L, .va (.int f), x, .va (.int o)] = .ok (.bl true) [L, .va (.int f), x, .va (.int o)] := by
        have : 0 < (o : Int) := by omega
        simp_arith [lc1_shared_by, this]
        omega
      have c2 : lb2_shared_by [L, .va (.int f), x, .va (.int o)] = .nx [L, .va (.int o), x, .va (.int (f % o : Nat))] := by
        have : 0 < (o : Int) := by omega
        have m : modD (.int f) (.int o) = some (.int ((f % o : Nat) : Int)) := by rw [modD_p this]; rfl
        simp_arith [-modD_p, lb2_shared_by, m]
      rw [whileF_step c1 c2]
      show whileF [] _ _ n [L, .va (.int o), x, .va (.int (f % o : Nat))] = _
      rw [gshared_by_loop L x n o (f % o) (by omega), Nat.gcd_comm o (f % o), Nat.gcd_comm f o]
      congr 6
      have := Nat.gcd_rec o f
      omega
theorem gshared_by_for (L : Sl) (xs : List Int) : forF [2, 3] (Tg.var 2).st lb1_shared_by (xs.map D.int) [L, .va (.int 0), .no, .no] = .nx [L, .va (.int (gl xs : Int)), .no, .no] := by
  have := forF_fold (ws := [2, 3]) (g := (Tg.var 2).st) (b := lb1_shared_by) (fun g : Nat => [L, .va (.int (g : Int)), .no, .no]) (fun g x => Int.gcd g x) xs 0 (fun g x _ => by
    refine ⟨[L, .va (.int (g : Int)), .va (.int x), .no], rfl, ?_⟩
    have lp := gshared_by_loop L (.va (.int x)) (x.natAbs + 1) g x.natAbs (Nat.lt_succ_self _)
    have ab : absL [.int x] = some (.int (x.natAbs : Nat)) := by rw [abs_i]; congr 2; split <;> omega
    have fu : fuel_shared_by [L, .va (.int (g : Int)), .va (.int x), .va (.int (x.natAbs : Nat))] = x.natAbs + 1 := by
      show ((x.natAbs : Nat) : Int).natAbs + 1 = _
      simp
    simp_arith [-abs_i, lb1_shared_by, sWhl_, ab, fu, lp, finK_nx]
    rfl)
  rw [gl_foldl0] at this
  exact this
theorem gshared_by_t (xs : List Int) : fn_shared_by [.tup (xs.map D.int)] = .ok (.int (gl xs : Int)) := by
  rw [fn_shared_by_eq]
  simp_arith [sh_shared_by, sFor_, kFor_ok, gshared_by_for]
theorem gshared_by_l (xs : List Int) : fn_shared_by [.lst (xs.map D.int)] = .ok (.int (gl xs : Int)) := by
  rw [fn_shared_by_eq]
  simp_arith [sh_shared_by, sFor_, kFor_ok, gshared_by_for]
theorem crossed2_eq (a b : V3) (ha : V3.BV 9000 a) (hb : V3.BV 9000 b) : fn_crossed_2 [a.tr, b.tr] = .ok (V3.cr a b).tr := by
  rw [fn_crossed_2_eq]
  obtain ⟨a1, a2, a3⟩ := ha
  obtain ⟨b1, b2, b3⟩ := hb
  unfold V3.tr V3.cr
  simp_arith [sh_crossed_2]
theorem scale_eq (p q : V3) (h : V3.cr p q ≠ .o3) (hp : V3.BV 7900 p) (hq : V3.BV 7900 q) : fn_scale [p.tr, q.tr] = .ok (.tup [(n61 p q).tr, (n62 p q).tr]) := by
  rw [fn_scale_eq]
  have p0 : p ≠ .o3 := fun z => h (by rw [z, V3.o3_cr])
  have q0 : q ≠ .o3 := fun z => h (by rw [z, V3.cr_o3])
  have t1 := is_triple_t p p0
  have t2 := is_triple_t q q0
  have c := crossed2_eq p q (hp.mono (by decide)) (hq.mono (by decide))
  have ce := V3.cop_eq_tr (p := V3.cr p q) (q := .o3)
  rw [decide_eq_false h] at ce
  have ce : COp.fn .eq (V3.cr p q).tr (.tup [.int 0, .int 0, .int 0]) = some (.bl false) := ce
  have l0 := lz6 h
  have bb : ∀ x ∈ p.li ++ q.li, B 8000 x := fun x hx => (List.mem_append.mp hx).elim (fun m => (hp.li x m).mono (by decide)) fun m => (hq.li x m).mono (by decide)
  have lo : fn_last_of [.tup ((p.li ++ q.li).map D.int)] = _ := last_of_eq (p.li ++ q.li) l0 (by show (6 : Nat) ≤ 1000; decide)
  have dv : fn_divisor_of [.tup ((p.li ++ q.li).map D.int)] = _ := gdivisor_of_t (p.li ++ q.li)
  have ad : addD p.tr q.tr = some (.tup ((p.li ++ q.li).map D.int)) := rfl
  have s1 : slD (.tup ((nrm (p.li ++ q.li)).map D.int)) none (some 3) = some (n61 p q).tr := rfl
  have s2 : slD (.tup ((nrm (p.li ++ q.li)).map D.int)) (some 3) none = some (n62 p q).tr := rfl
  have n0 := byL_ne l0
  have nB : B 8999 (byL (p.li ++ q.li)) := (B_byL l0 bb).mono (by decide)
  have hl : (p.li ++ q.li).length ≤ 1000000 := by show (6 : Nat) ≤ 1000000; decide
  have cc : ∀ s4 : Sl, compF (Tg.var 5).st none ce1_scale [5] ((p.li ++ q.li).map D.int) [.va p.tr, .va q.tr, .va (.tup ((p.li ++ q.li).map D.int)), .va (.int (byL (p.li ++ q.li))), s4, .no] = some ((nrm (p.li ++ q.li)).map D.int, [.va p.tr, .va q.tr, .va (.tup ((p.li ++ q.li).map D.int)), .va (.int (byL (p.li ++ q.li))), s4, .no]) := fun s4 => by
    unfold nrm
    rw [List.map_map]
    refine compF_mapI fun x _ => ⟨[.va p.tr, .va q.tr, .va (.tup ((p.li ++ q.li).map D.int)), .va (.int (byL (p.li ++ q.li))), s4, .va (.int x)], rfl, [.va p.tr, .va q.tr, .va (.tup ((p.li ++ q.li).map D.int)), .va (.int (byL (p.li ++ q.li))), s4, .va (.int x)], ?_, rfl⟩
    have : fdivD (.int x) (.int (byL (p.li ++ q.li))) = some (.int (x.fdiv (byL (p.li ++ q.li)))) := fdivD_i (divOk_B n0 nB)
    simp_arith [-fdivD_p, ce1_scale, this]
  have ey : byL (p.li ++ q.li) = if lz (p.li ++ q.li) < 0 then -(gl (p.li ++ q.li) : Int) else gl (p.li ++ q.li) := rfl
  generalize hL : p.li ++ q.li = L at *
  clear bb
  by_cases hn : lz L < 0
  · rw [if_pos hn] at ey
    have e' : 0 - (gl L : Int) = byL L := by omega
    simp_arith [-addD_tt, sh_scale, t1, t2, c, ce, lo, dv, ad, s1, s2, cc, hn, hl, e']
  · rw [if_neg hn] at ey
    rw [← ey] at dv
    simp_arith [-addD_tt, sh_scale, t1, t2, c, ce, lo, dv, ad, s1, s2, cc, hn, hl]
theorem mark_eq (p q : V3) (u v : Int) (h : V3.cr p q ≠ .o3) (h' : ¬(u = 0 ∧ v = 0)) (hp : V3.BV 2500 p) (hq : V3.BV 2500 q) (hu : B 2500 u) (hv : B 2500 v) : fn_mark [.tup [p.tr, q.tr], .tup [.int u, .int v]] = .ok (mk p q u v).nm.tr := by
  rw [fn_mark_eq]
  have s := spot_eq _ (mk_ne h h') ((mk_B hp hq hu hv).mono (by decide))
  have s : fn_spot [.tup [.int (v * p.x + u * q.x), .int (v * p.y + u * q.y), .int (v * p.z + u * q.z)]] = .ok (mk p q u v).nm.tr := s
  have z : zipL [p.tr, q.tr] = some [.tup [.int p.x, .int q.x], .tup [.int p.y, .int q.y], .tup [.int p.z, .int q.z]] := rfl
  obtain ⟨p1, p2, p3⟩ := hp
  obtain ⟨q1, q2, q3⟩ := hq
  simp_arith [sh_mark, ce1_mark, z, s]
theorem line_of_eq (p q : V3) (h : V3.cr p q ≠ .o3) (hp : V3.BV 3900 p) (hq : V3.BV 3900 q) : fn_line_of [.tup [p.tr, q.tr]] = .ok (V3.cr p q).nm.tr := by
  rw [fn_line_of_eq]
  have s1 := spot_eq p (cr_ne1 h) (hp.mono (by decide))
  have s2 := spot_eq q (cr_ne2 h) (hq.mono (by decide))
  obtain ⟨n, e⟩ := V3.nm_cr (cr_ne1 h) (cr_ne2 h) h
  have j := joined_eq p.nm q.nm (V3.ne_of_cr n) n (hp.nm.mono (by decide)) (hq.nm.mono (by decide))
  rw [e] at j
  simp_arith [sh_line_of, s1, s2, j]
theorem chart_eq (p1 q1 p2 q2 p3 q3 : V3) (h1 : V3.cr p1 q1 ≠ .o3) (h2 : V3.cr p2 q2 ≠ .o3) (h3 : V3.cr p3 q3 ≠ .o3) (bp1 : V3.BV 3900 p1) (bq1 : V3.BV 3900 q1) (bp2 : V3.BV 3900 p2) (bq2 : V3.BV 3900 q2) (bp3 : V3.BV 3900 p3) (bq3 : V3.BV 3900 q3)
    (hn : ¬((V3.cr p1 q1).nm = (V3.cr p2 q2).nm ∧ (V3.cr p2 q2).nm = (V3.cr p3 q3).nm)) :
    fn_chart [.tup [p1.tr, q1.tr], .tup [p2.tr, q2.tr], .tup [p3.tr, q3.tr]] = .ok (.tup [.tup [p1.tr, q1.tr], .tup [p2.tr, q2.tr], .tup [p3.tr, q3.tr]]) := by
  rw [fn_chart_eq]
  have l1 := line_of_eq p1 q1 h1 bp1 bq1
  have l2 := line_of_eq p2 q2 h2 bp2 bq2
  have l3 := line_of_eq p3 q3 h3 bp3 bq3
  have c1 := V3.cop_eq_tr (p := (V3.cr p1 q1).nm) (q := (V3.cr p2 q2).nm)
  have c2 := V3.cop_eq_tr (p := (V3.cr p2 q2).nm) (q := (V3.cr p3 q3).nm)
  generalize D.tup [p1.tr, q1.tr] = S1 at *
  generalize D.tup [p2.tr, q2.tr] = S2 at *
  generalize D.tup [p3.tr, q3.tr] = S3 at *
  by_cases e1 : (V3.cr p1 q1).nm = (V3.cr p2 q2).nm
  · have e2 : ¬ (V3.cr p2 q2).nm = (V3.cr p3 q3).nm := fun e2 => hn ⟨e1, e2⟩
    rw [decide_eq_true e1] at c1
    rw [decide_eq_false e2] at c2
    clear e1 e2 hn
    generalize (V3.cr p1 q1).nm.tr = N1 at *
    generalize (V3.cr p2 q2).nm.tr = N2 at *
    generalize (V3.cr p3 q3).nm.tr = N3 at *
    simp_arith [sh_chart, l1, l2, l3, c1, c2]
  · rw [decide_eq_false e1] at c1
    clear e1 hn c2
    generalize (V3.cr p1 q1).nm.tr = N1 at *
    generalize (V3.cr p2 q2).nm.tr = N2 at *
    generalize (V3.cr p3 q3).nm.tr = N3 at *
    simp_arith [sh_chart, l1, l2, l3, c1]
def det (a b c : V3) : Int := V3.dt (V3.cr a b) c
/-- the undivided numbers of three scales -/
def eq8 (p1 q1 p2 q2 p3 q3 : V3) : List Int := [det p1 p2 p3, det p1 p2 q3, det p1 q2 p3, det p1 q2 q3, det q1 p2 p3, det q1 p2 q3, det q1 q2 p3, det q1 q2 q3]
theorem equation_eq (p1 q1 p2 q2 p3 q3 : V3) (bp1 : V3.BV 2600 p1) (bq1 : V3.BV 2600 q1) (bp2 : V3.BV 2600 p2) (bq2 : V3.BV 2600 q2) (bp3 : V3.BV 2600 p3) (bq3 : V3.BV 2600 q3)
    (h : fz (eq8 p1 q1 p2 q2 p3 q3) ≠ 0) : fn_equation [.tup [.tup [p1.tr, q1.tr], .tup [p2.tr, q2.tr], .tup [p3.tr, q3.tr]]] = .ok (.tup ((nrmF (eq8 p1 q1 p2 q2 p3 q3)).map D.int)) := by
  rw [fn_equation_eq]
  have M : ∀ {a : V3}, V3.BV 2600 a → V3.BV 6000 a := fun h => h.mono (by decide)
  have D1 := det_eq p1 p2 p3 (M bp1) (M bp2) (M bp3)
  have D2 := det_eq p1 p2 q3 (M bp1) (M bp2) (M bq3)
  have D3 := det_eq p1 q2 p3 (M bp1) (M bq2) (M bp3)
  have D4 := det_eq p1 q2 q3 (M bp1) (M bq2) (M bq3)
  have D5 := det_eq q1 p2 p3 (M bq1) (M bp2) (M bp3)
  have D6 := det_eq q1 p2 q3 (M bq1) (M bp2) (M bq3)
  have D7 := det_eq q1 q2 p3 (M bq1) (M bq2) (M bp3)
  have D8 := det_eq q1 q2 q3 (M bq1) (M bq2) (M bq3)
  have bd : ∀ {a b c : V3}, V3.BV 2600 a → V3.BV 2600 b → V3.BV 2600 c → B 8000 (det a b c) := fun x y z => ((x.cr y).dt z).mono (by decide)
  have bb : ∀ x ∈ eq8 p1 q1 p2 q2 p3 q3, B 8000 x := by
    intro x hx
    unfold eq8 at hx
    simp only [List.mem_cons, List.not_mem_nil, or_false] at hx
    rcases hx with rfl | rfl | rfl | rfl | rfl | rfl | rfl | rfl
    · exact bd bp1 bp2 bp3
    · exact bd bp1 bp2 bq3
    · exact bd bp1 bq2 bp3
    · exact bd bp1 bq2 bq3
    · exact bd bq1 bp2 bp3
    · exact bd bq1 bp2 bq3
    · exact bd bq1 bq2 bp3
    · exact bd bq1 bq2 bq3
  have ex : (eq8 p1 q1 p2 q2 p3 q3).map D.int = [.int (V3.dt (V3.cr p1 p2) p3), .int (V3.dt (V3.cr p1 p2) q3), .int (V3.dt (V3.cr p1 q2) p3), .int (V3.dt (V3.cr p1 q2) q3), .int (V3.dt (V3.cr q1 p2) p3), .int (V3.dt (V3.cr q1 p2) q3), .int (V3.dt (V3.cr q1 q2) p3), .int (V3.dt (V3.cr q1 q2) q3)] := rfl
  have hlen : (eq8 p1 q1 p2 q2 p3 q3).length ≤ 1000000 := by show (8 : Nat) ≤ 1000000; decide
  generalize hX : eq8 p1 q1 p2 q2 p3 q3 = xs at *
  clear hX bp1 bq1 bp2 bq2 bp3 bq3
  have fA : idxD (.tup [p1.tr, q1.tr]) (.int 0) = some p1.tr := rfl
  have fB : idxD (.tup [p1.tr, q1.tr]) (.int 1) = some q1.tr := rfl
  have sA : idxD (.tup [p2.tr, q2.tr]) (.int 0) = some p2.tr := rfl
  have sB : idxD (.tup [p2.tr, q2.tr]) (.int 1) = some q2.tr := rfl
  have tA : idxD (.tup [p3.tr, q3.tr]) (.int 0) = some p3.tr := rfl
  have tB : idxD (.tup [p3.tr, q3.tr]) (.int 1) = some q3.tr := rfl
  have lp : ∀ s0 : Sl, forF [2, 7, 8] (Tg.var 2).st lb1_equation [.int 0, .int 1] [s0, .ow (.lst []), .no, .no, .va (.tup [p1.tr, q1.tr]), .va (.tup [p2.tr, q2.tr]), .va (.tup [p3.tr, q3.tr]), .no, .no, .no] = .nx [s0, .ow (.lst (xs.map D.int)), .no, .no, .va (.tup [p1.tr, q1.tr]), .va (.tup [p2.tr, q2.tr]), .va (.tup [p3.tr, q3.tr]), .no, .no, .no] := by
    intro s0
    rw [ex]
    generalize D.tup [p1.tr, q1.tr] = S1 at *
    generalize D.tup [p2.tr, q2.tr] = S2 at *
    generalize D.tup [p3.tr, q3.tr] = S3 at *
    generalize p1.tr = P1 at *
    generalize q1.tr = Q1 at *
    generalize p2.tr = P2 at *
    generalize q2.tr = Q2 at *
    generalize p3.tr = P3 at *
    generalize q3.tr = Q3 at *
    simp_arith [lb1_equation, lb2_equation, lb3_equation, sFor_, kFor_ok, rngK_1, rngD_0, rngD_s, fA, fB, sA, sB, tA, tB, D1, D2, D3, D4, D5, D6, D7, D8]
  clear D1 D2 D3 D4 D5 D6 D7 D8 fA fB sA sB tA tB ex
  generalize D.tup [p1.tr, q1.tr] = S1 at *
  generalize D.tup [p2.tr, q2.tr] = S2 at *
  generalize D.tup [p3.tr, q3.tr] = S3 at *
  have sb := gshared_by_l xs
  have n0 := byF_ne h
  have nB : B 8999 (byF xs) := (B_byF h bb).mono (by decide)
  have c1 : ∀ (s0 s2 s3 s4 s5 s6 s7 s8 : Sl), compF (Tg.var 9).st (some ct1_equation) ce1_equation [9] (xs.map D.int) [s0, .va (.lst (xs.map D.int)), s2, s3, s4, s5, s6, s7, s8, .no] = some ((xs.filter fun x => !decide (x = 0)).map D.int, [s0, .va (.lst (xs.map D.int)), s2, s3, s4, s5, s6, s7, s8, .no]) := fun s0 s2 s3 s4 s5 s6 s7 s8 => by
    refine compF_filI fun x _ => ⟨[s0, .va (.lst (xs.map D.int)), s2, s3, s4, s5, s6, s7, s8, .va (.int x)], rfl, [s0, .va (.lst (xs.map D.int)), s2, s3, s4, s5, s6, s7, s8, .va (.int x)], ?_, rfl, [s0, .va (.lst (xs.map D.int)), s2, s3, s4, s5, s6, s7, s8, .va (.int x)], rfl, rfl⟩
    simp_arith [ct1_equation]
  have c2 : ∀ (s0 s2 s4 s5 s6 s7 s8 : Sl), compF (Tg.var 9).st none ce2_equation [9] (xs.map D.int) [s0, .va (.lst (xs.map D.int)), s2, .va (.int (byF xs)), s4, s5, s6, s7, s8, .no] = some ((xs.map fun x => x.fdiv (byF xs)).map D.int, [s0, .va (.lst (xs.map D.int)), s2, .va (.int (byF xs)), s4, s5, s6, s7, s8, .no]) := fun s0 s2 s4 s5 s6 s7 s8 => by
    rw [List.map_map]
    refine compF_mapI fun x _ => ⟨[s0, .va (.lst (xs.map D.int)), s2, .va (.int (byF xs)), s4, s5, s6, s7, s8, .va (.int x)], rfl, [s0, .va (.lst (xs.map D.int)), s2, .va (.int (byF xs)), s4, s5, s6, s7, s8, .va (.int x)], ?_, rfl⟩
    have : fdivD (.int x) (.int (byF xs)) = some (.int (x.fdiv (byF xs))) := fdivD_i (divOk_B n0 nB)
    simp_arith [-fdivD_p, ce2_equation, this]
  have ha := fz_at h
  unfold nrmF
  by_cases hn : fz xs < 0
  · have e : byF xs = -(gl xs : Int) := if_pos hn
    have e' : 0 - (gl xs : Int) = byF xs := by omega
    simp_arith [-atI_0, sh_equation, sFor_, kFor_ok, rngK_1, rngD_0, rngD_s, lp, sb, c1, c2, ha, hn, hlen, e']
  · have e : byF xs = (gl xs : Int) := if_neg hn
    rw [← e] at sb
    simp_arith [-atI_0, sh_equation, sFor_, kFor_ok, rngK_1, rngD_0, rngD_s, lp, sb, c1, c2, ha, hn, hlen]
theorem eq8_ne {p1 q1 p2 q2 p3 q3 : V3} (h1 : V3.cr p1 q1 ≠ .o3) (h2 : V3.cr p2 q2 ≠ .o3) (h3 : V3.cr p3 q3 ≠ .o3) (hn : ¬((V3.cr p1 q1).nm = (V3.cr p2 q2).nm ∧ (V3.cr p2 q2).nm = (V3.cr p3 q3).nm)) : fz (eq8 p1 q1 p2 q2 p3 q3) ≠ 0 := fun z => by
  have all := fz_zero z
  unfold eq8 at all
  simp only [List.mem_cons, List.not_mem_nil, or_false, forall_eq_or_imp, forall_eq] at all
  obtain ⟨d1, d2, d3, d4, d5, d6, d7, d8⟩ := all
  -- (a x b) x N3 = 0 for a in {p1, q1}, b in {p2, q2}
  have k0 : ∀ a b : V3, det a b p3 = 0 → det a b q3 = 0 → V3.cr (V3.cr a b) (V3.cr p3 q3) = .o3 := fun a b e1 e2 => by
    have : V3.cr (V3.cr a b) (V3.cr p3 q3) = V3.ad (V3.sm (det a b q3) p3) (V3.sm (-(det a b p3)) q3) := by
      unfold det V3.cr V3.sm V3.ad V3.dt; ext <;> dsimp only <;> grind
    rw [this, e1, e2]
    unfold V3.ad V3.sm V3.o3; simp
  have k1 : ∀ a b : V3, V3.cr (V3.cr a b) (V3.cr p3 q3) = V3.ad (V3.sm (V3.dt a (V3.cr p3 q3)) b) (V3.sm (-(V3.dt b (V3.cr p3 q3))) a) := fun a b => by
    unfold V3.cr V3.sm V3.ad V3.dt; ext <;> dsimp only <;> grind
  -- (a . N3) b = (b . N3) a
  have k2 : ∀ a b : V3, det a b p3 = 0 → det a b q3 = 0 → V3.sm (V3.dt a (V3.cr p3 q3)) b = V3.sm (V3.dt b (V3.cr p3 q3)) a := fun a b e1 e2 => by
    have := k0 a b e1 e2
    rw [k1] at this
    have x := congrArg V3.x this
    have y := congrArg V3.y this
    have w := congrArg V3.z this
    unfold V3.ad V3.sm V3.o3 at x y w
    unfold V3.sm
    ext <;> dsimp only at * <;> grind
  have k3 : ∀ a b c : V3, V3.cr b c ≠ .o3 → det a b p3 = 0 → det a b q3 = 0 → det a c p3 = 0 → det a c q3 = 0 → V3.dt a (V3.cr p3 q3) = 0 := fun a b c hbc e1 e2 e3 e4 => by
    have x1 := k2 a b e1 e2
    have x2 := k2 a c e3 e4
    by_cases h : V3.dt a (V3.cr p3 q3) = 0
    · exact h
    · exfalso
      have : V3.cr (V3.sm (V3.dt a (V3.cr p3 q3)) b) (V3.sm (V3.dt a (V3.cr p3 q3)) c) = .o3 := by
        rw [x1, x2, V3.sm_cr, V3.cr_sm, V3.cr_self]
        unfold V3.sm V3.o3; simp
      rw [V3.sm_cr, V3.cr_sm, V3.sm_sm] at this
      exact V3.sm_ne (Int.mul_ne_zero h h) hbc this
  have f1 := k3 p1 p2 q2 h2 d1 d2 d3 d4
  have f2 := k3 q1 p2 q2 h2 d5 d6 d7 d8
  have sw : ∀ a b c : V3, det a b c = 0 → det b a c = 0 := fun a b c e => by
    have : det b a c = -det a b c := V3.dt_swap a b c
    omega
  have f3 := k3 p2 p1 q1 h1 (sw _ _ _ d1) (sw _ _ _ d2) (sw _ _ _ d5) (sw _ _ _ d6)
  have f4 := k3 q2 p1 q1 h1 (sw _ _ _ d3) (sw _ _ _ d4) (sw _ _ _ d7) (sw _ _ _ d8)
  have fin : ∀ a b : V3, V3.cr a b ≠ .o3 → V3.dt a (V3.cr p3 q3) = 0 → V3.dt b (V3.cr p3 q3) = 0 → (V3.cr a b).nm = (V3.cr p3 q3).nm := fun a b hab e1 e2 => by
    refine V3.par hab h3 ?_
    rw [k1, e1, e2]
    unfold V3.ad V3.sm V3.o3; simp
  have g1 := fin p1 q1 h1 f1 f2
  have g2 := fin p2 q2 h2 f3 f4
  exact hn ⟨g1.trans g2.symm, g2⟩
def scl (p q : V3) : D := .tup [p.tr, q.tr]
def chD (p1 q1 p2 q2 p3 q3 : V3) : D := .tup [scl p1 q1, scl p2 q2, scl p3 q3]
def Skn (n : Nat) (p q : V3) : Prop := V3.cr p q ≠ .o3 ∧ V3.BV n p ∧ V3.BV n q
abbrev Sk (p q : V3) : Prop := Skn 700 p q
def Ckn (n : Nat) (p1 q1 p2 q2 p3 q3 : V3) : Prop := Skn n p1 q1 ∧ Skn n p2 q2 ∧ Skn n p3 q3 ∧ ¬((V3.cr p1 q1).nm = (V3.cr p2 q2).nm ∧ (V3.cr p2 q2).nm = (V3.cr p3 q3).nm)
abbrev Ck (p1 q1 p2 q2 p3 q3 : V3) : Prop := Ckn 700 p1 q1 p2 q2 p3 q3
theorem Skn.mono {n m : Nat} {p q : V3} (h : Skn n p q) (l : n ≤ m) : Skn m p q := ⟨h.1, h.2.1.mono l, h.2.2.mono l⟩
theorem Ckn.mono {n m : Nat} {p1 q1 p2 q2 p3 q3 : V3} (h : Ckn n p1 q1 p2 q2 p3 q3) (l : n ≤ m) : Ckn m p1 q1 p2 q2 p3 q3 := ⟨h.1.mono l, h.2.1.mono l, h.2.2.1.mono l, h.2.2.2⟩
theorem n6_line {p q : V3} (h : V3.cr p q ≠ .o3) : (V3.cr (n61 p q) (n62 p q)).nm = (V3.cr p q).nm := by
  obtain ⟨e1, e2, g0⟩ := n6_eq h
  have c := n6_cr h
  generalize n61 p q = a at *
  generalize n62 p q = b at *
  generalize byL (p.li ++ q.li) = g at *
  subst e1 e2
  rw [V3.sm_cr, V3.cr_sm, V3.nm_sm g0 (V3.sm_ne g0 c), V3.nm_sm g0 c]
theorem n6_sm {k : Int} {p q : V3} (hk : k ≠ 0) (h : V3.cr p q ≠ .o3) : n61 (V3.sm k p) (V3.sm k q) = n61 p q ∧ n62 (V3.sm k p) (V3.sm k q) = n62 p q := by
  have e : (V3.sm k p).li ++ (V3.sm k q).li = sc k (p.li ++ q.li) := rfl
  have n : nrm ((V3.sm k p).li ++ (V3.sm k q).li) = nrm (p.li ++ q.li) := by rw [e, nrm_mul hk (lz6 h)]
  rw [n6_li, n6_li] at n
  unfold V3.li at n
  simp only [List.cons_append, List.nil_append, List.cons.injEq, and_true] at n
  obtain ⟨a1, a2, a3, a4, a5, a6⟩ := n
  exact ⟨V3.ext' a1 a2 a3, V3.ext' a4 a5 a6⟩
/-- the six numbers are settled -/
def N6 (p q : V3) : Prop := n61 p q = p ∧ n62 p q = q
theorem n6_n6 {p q : V3} (h : V3.cr p q ≠ .o3) : N6 (n61 p q) (n62 p q) := by
  obtain ⟨e1, e2, g0⟩ := n6_eq h
  have c := n6_cr h
  obtain ⟨f1, f2⟩ := n6_sm g0 c
  constructor
  · rw [← f1, ← e1, ← e2]
  · rw [← f2, ← e1, ← e2]
theorem cr_ld (m : M3) (p q : V3) : V3.cr (m.ld p) (m.ld q) = m.adj.tp.ld (V3.cr p q) := by
  unfold M3.ld M3.adj M3.tp V3.cr V3.dt; ext <;> dsimp only <;> grind
theorem dt_ld (m : M3) (c p : V3) : V3.dt (m.adj.tp.ld c) (m.ld p) = m.det * V3.dt c p := by
  unfold M3.ld M3.adj M3.tp M3.det V3.cr V3.dt; dsimp only; grind
theorem det_tp (m : M3) : m.tp.det = m.det := by
  unfold M3.det M3.tp V3.dt V3.cr; dsimp only; grind
theorem det_at {m : M3} (h : m.det ≠ 0) : m.adj.tp.det ≠ 0 := by rw [det_tp]; exact M3.det_ad h
theorem cr_led {m : M3} (h : m.det ≠ 0) {p q : V3} (hc : V3.cr p q ≠ .o3) : V3.cr (m.ld p) (m.ld q) ≠ .o3 := by rw [cr_ld]; exact M3.ld_ne (det_at h) hc
theorem ld_inj {m : M3} (h : m.det ≠ 0) {x y : V3} (hx : x ≠ .o3) (hy : y ≠ .o3) (e : (m.ld x).nm = (m.ld y).nm) : x.nm = y.nm := by
  have k : ∀ {x : V3}, x ≠ .o3 → (m.adj.ld (m.ld x).nm).nm = x.nm := fun {x} hx => by
    rw [M3.nm_led (M3.det_ad h) (M3.ld_ne h hx), ← M3.ld_mul, M3.adj_self, M3.sm_ld, M3.ld_one, V3.nm_sm h hx]
  rw [← k hx, e, k hy]
def ls1 (m : M3) (p q : V3) : V3 := n61 (m.ld p) (m.ld q)
def ls2 (m : M3) (p q : V3) : V3 := n62 (m.ld p) (m.ld q)
theorem ls_ex {m : M3} (h : m.det ≠ 0) {p q : V3} (hc : V3.cr p q ≠ .o3) : ∃ g : Int, g ≠ 0 ∧ m.ld p = V3.sm g (ls1 m p q) ∧ m.ld q = V3.sm g (ls2 m p q) ∧ V3.cr (ls1 m p q) (ls2 m p q) ≠ .o3 := by
  obtain ⟨e1, e2, g0⟩ := n6_eq (cr_led h hc)
  exact ⟨_, g0, e1, e2, n6_cr (cr_led h hc)⟩
theorem ls_line {m : M3} (h : m.det ≠ 0) {p q : V3} (hc : V3.cr p q ≠ .o3) : (V3.cr (ls1 m p q) (ls2 m p q)).nm = (m.adj.tp.ld (V3.cr p q)).nm := by
  unfold ls1 ls2
  rw [n6_line (cr_led h hc), cr_ld]
theorem ld_mk (m : M3) (p q : V3) (u v : Int) : m.ld (mk p q u v) = mk (m.ld p) (m.ld q) u v := by
  unfold mk M3.ld V3.dt; ext <;> dsimp only <;> grind
theorem mk_sm (g : Int) (p q : V3) (u v : Int) : mk (V3.sm g p) (V3.sm g q) u v = V3.sm g (mk p q u v) := by
  unfold mk V3.sm; ext <;> dsimp only <;> grind
theorem ls_mk {m : M3} (h : m.det ≠ 0) {p q : V3} (hc : V3.cr p q ≠ .o3) {u v : Int} (hv : ¬(u = 0 ∧ v = 0)) : (m.ld (mk p q u v).nm).nm = (mk (ls1 m p q) (ls2 m p q) u v).nm := by
  obtain ⟨g, g0, e1, e2, c⟩ := ls_ex h hc
  rw [M3.nm_led h (mk_ne hc hv), ld_mk, e1, e2, mk_sm, V3.nm_sm g0 (mk_ne c hv)]
theorem ls_B {n k : Nat} {m : M3} {p q : V3} (hm : M3.BM k m) (hp : V3.BV n p) (hq : V3.BV n q) : V3.BV (k + n + 2) (ls1 m p q) ∧ V3.BV (k + n + 2) (ls2 m p q) := n6_B (hm.ld hp) (hm.ld hq)
theorem Ckn.led {n k : Nat} {m : M3} {p1 q1 p2 q2 p3 q3 : V3} (h : Ckn n p1 q1 p2 q2 p3 q3) (hd : m.det ≠ 0) (hm : M3.BM k m) : Ckn (k + n + 2) (ls1 m p1 q1) (ls2 m p1 q1) (ls1 m p2 q2) (ls2 m p2 q2) (ls1 m p3 q3) (ls2 m p3 q3) := by
  obtain ⟨⟨c1, b1, b2⟩, ⟨c2, b3, b4⟩, ⟨c3, b5, b6⟩, hn⟩ := h
  have S : ∀ {p q : V3}, V3.cr p q ≠ .o3 → V3.BV n p → V3.BV n q → Skn (k + n + 2) (ls1 m p q) (ls2 m p q) := fun c x y => ⟨n6_cr (cr_led hd c), (ls_B hm x y).1, (ls_B hm x y).2⟩
  refine ⟨S c1 b1 b2, S c2 b3 b4, S c3 b5 b6, fun e => hn ?_⟩
  rw [ls_line hd c1, ls_line hd c2, ls_line hd c3] at e
  exact ⟨ld_inj (det_at hd) c1 c2 e.1, ld_inj (det_at hd) c2 c3 e.2⟩
theorem det_ld (m : M3) (a b c : V3) : det (m.ld a) (m.ld b) (m.ld c) = m.det * det a b c := by
  unfold det
  rw [cr_ld, dt_ld]
theorem det_sm3 (g k l : Int) (p q r : V3) : det (V3.sm g p) (V3.sm k q) (V3.sm l r) = g * k * l * det p q r := by
  unfold det V3.dt V3.cr V3.sm; dsimp only; grind
theorem eq8_ld (m : M3) (p1 q1 p2 q2 p3 q3 : V3) : eq8 (m.ld p1) (m.ld q1) (m.ld p2) (m.ld q2) (m.ld p3) (m.ld q3) = sc m.det (eq8 p1 q1 p2 q2 p3 q3) := by
  unfold eq8 sc
  simp only [det_ld, List.map_cons, List.map_nil]
theorem eq8_sm (g k l : Int) (p1 q1 p2 q2 p3 q3 : V3) : eq8 (V3.sm g p1) (V3.sm g q1) (V3.sm k p2) (V3.sm k q2) (V3.sm l p3) (V3.sm l q3) = sc (g * k * l) (eq8 p1 q1 p2 q2 p3 q3) := by
  unfold eq8 sc
  simp only [det_sm3, List.map_cons, List.map_nil]
theorem eq_led {n : Nat} {m : M3} {p1 q1 p2 q2 p3 q3 : V3} (h : Ckn n p1 q1 p2 q2 p3 q3) (hd : m.det ≠ 0) : nrmF (eq8 (ls1 m p1 q1) (ls2 m p1 q1) (ls1 m p2 q2) (ls2 m p2 q2) (ls1 m p3 q3) (ls2 m p3 q3)) = nrmF (eq8 p1 q1 p2 q2 p3 q3) := by
  obtain ⟨⟨c1, b1, b2⟩, ⟨c2, b3, b4⟩, ⟨c3, b5, b6⟩, hn⟩ := h
  have f0 := eq8_ne c1 c2 c3 hn
  obtain ⟨g, g0, e1, e2, x1⟩ := ls_ex hd c1
  obtain ⟨k, k0, e3, e4, x2⟩ := ls_ex hd c2
  obtain ⟨l, l0, e5, e6, x3⟩ := ls_ex hd c3
  have nn : ¬((V3.cr (ls1 m p1 q1) (ls2 m p1 q1)).nm = (V3.cr (ls1 m p2 q2) (ls2 m p2 q2)).nm ∧ (V3.cr (ls1 m p2 q2) (ls2 m p2 q2)).nm = (V3.cr (ls1 m p3 q3) (ls2 m p3 q3)).nm) := fun e => hn (by
    rw [ls_line hd c1, ls_line hd c2, ls_line hd c3] at e
    exact ⟨ld_inj (det_at hd) c1 c2 e.1, ld_inj (det_at hd) c2 c3 e.2⟩)
  have f1 := eq8_ne x1 x2 x3 nn
  have e := eq8_ld m p1 q1 p2 q2 p3 q3
  rw [e1, e2, e3, e4, e5, e6, eq8_sm] at e
  rw [← nrmF_mul (Int.mul_ne_zero (Int.mul_ne_zero g0 k0) l0) f1, e, nrmF_mul hd f0]
theorem led_scale_eq (m : M3) (p q : V3) (h : m.det ≠ 0) (hc : V3.cr p q ≠ .o3) (hm : M3.BM 2000 m) (hp : V3.BV 2000 p) (hq : V3.BV 2000 q) : fn_led_scale [m.mt, scl p q] = .ok (scl (ls1 m p q) (ls2 m p q)) := by
  rw [fn_led_scale_eq]
  have l1 := led_triple_eq m p (hm.mono (by decide)) (hp.mono (by decide))
  have l2 := led_triple_eq m q (hm.mono (by decide)) (hq.mono (by decide))
  have s : fn_scale [(m.ld p).tr, (m.ld q).tr] = .ok (scl (ls1 m p q) (ls2 m p q)) := scale_eq _ _ (cr_led h hc) ((hm.ld hp).mono (by decide)) ((hm.ld hq).mono (by decide))
  have i0 : idxD (scl p q) (.int 0) = some p.tr := rfl
  have i1 : idxD (scl p q) (.int 1) = some q.tr := rfl
  generalize scl p q = S at *
  generalize m.mt = M at *
  generalize p.tr = P at *
  generalize q.tr = Q at *
  generalize (m.ld p).tr = P' at *
  generalize (m.ld q).tr = Q' at *
  simp_arith [sh_led_scale, l1, l2, s, i0, i1]
theorem led_chart_eq (m : M3) {p1 q1 p2 q2 p3 q3 : V3} (h : m.det ≠ 0) (hm : M3.BM 1800 m) (c : Ckn 2000 p1 q1 p2 q2 p3 q3) : fn_led_chart [m.mt, chD p1 q1 p2 q2 p3 q3] = .ok (chD (ls1 m p1 q1) (ls2 m p1 q1) (ls1 m p2 q2) (ls2 m p2 q2) (ls1 m p3 q3) (ls2 m p3 q3)) := by
  rw [fn_led_chart_eq]
  obtain ⟨⟨c1, b1, b2⟩, ⟨c2, b3, b4⟩, ⟨c3, b5, b6⟩, hn⟩ := id c
  have l1 := led_scale_eq m p1 q1 h c1 (hm.mono (by decide)) b1 b2
  have l2 := led_scale_eq m p2 q2 h c2 (hm.mono (by decide)) b3 b4
  have l3 := led_scale_eq m p3 q3 h c3 (hm.mono (by decide)) b5 b6
  obtain ⟨⟨d1, f1, f2⟩, ⟨d2, f3, f4⟩, ⟨d3, f5, f6⟩, nn⟩ := c.led h hm
  have M : ∀ {v : V3}, V3.BV (1800 + 2000 + 2) v → V3.BV 3900 v := fun h => h.mono (by decide)
  have ch : fn_chart [scl (ls1 m p1 q1) (ls2 m p1 q1), scl (ls1 m p2 q2) (ls2 m p2 q2), scl (ls1 m p3 q3) (ls2 m p3 q3)] = .ok (chD (ls1 m p1 q1) (ls2 m p1 q1) (ls1 m p2 q2) (ls2 m p2 q2) (ls1 m p3 q3) (ls2 m p3 q3)) := chart_eq _ _ _ _ _ _ d1 d2 d3 (M f1) (M f2) (M f3) (M f4) (M f5) (M f6) nn
  have sq : ∀ δ, seqK (.ok (chD p1 q1 p2 q2 p3 q3) δ) = .ok [scl p1 q1, scl p2 q2, scl p3 q3] δ := fun _ => rfl
  generalize chD p1 q1 p2 q2 p3 q3 = C at *
  generalize chD (ls1 m p1 q1) (ls2 m p1 q1) (ls1 m p2 q2) (ls2 m p2 q2) (ls1 m p3 q3) (ls2 m p3 q3) = C' at *
  generalize scl p1 q1 = S1 at *
  generalize scl p2 q2 = S2 at *
  generalize scl p3 q3 = S3 at *
  generalize scl (ls1 m p1 q1) (ls2 m p1 q1) = T1 at *
  generalize scl (ls1 m p2 q2) (ls2 m p2 q2) = T2 at *
  generalize scl (ls1 m p3 q3) (ls2 m p3 q3) = T3 at *
  generalize m.mt = M at *
  simp_arith [sh_led_chart, ce1_led_chart, sq, l1, l2, l3, ch]
theorem equation_k {p1 q1 p2 q2 p3 q3 : V3} (c : Ckn 2600 p1 q1 p2 q2 p3 q3) : fn_equation [chD p1 q1 p2 q2 p3 q3] = .ok (.tup ((nrmF (eq8 p1 q1 p2 q2 p3 q3)).map D.int)) := by
  obtain ⟨⟨c1, b1, b2⟩, ⟨c2, b3, b4⟩, ⟨c3, b5, b6⟩, hn⟩ := c
  exact equation_eq p1 q1 p2 q2 p3 q3 b1 b2 b3 b4 b5 b6 (eq8_ne c1 c2 c3 hn)
theorem bv {n : Nat} (a : V3) (h : a.x.natAbs < 8 ∧ a.y.natAbs < 8 ∧ a.z.natAbs < 8) (hn : 3 ≤ n := by decide) : V3.BV n a := by
  have l : 2 ^ 3 ≤ 2 ^ n := Nat.pow_le_pow_right (by decide) hn
  exact ⟨Nat.lt_of_lt_of_le h.1 l, Nat.lt_of_lt_of_le h.2.1 l, Nat.lt_of_lt_of_le h.2.2 l⟩
theorem eqS (a b : Str) (c : Bool) (ha : PyData.strOk a = true) (hb : PyData.strOk b = true) (h : (a == b) = c) : COp.fn .eq (.str a) (.str b) = some (.bl c) := by rw [cop_eq_ss ha hb, h]
theorem s_plus_plus : COp.fn .eq (.str "plus") (.str "plus") = some (.bl true) := eqS _ _ _ (by decide +kernel) (by decide +kernel) (by decide +kernel)
theorem s_plus_times : COp.fn .eq (.str "plus") (.str "times") = some (.bl false) := eqS _ _ _ (by decide +kernel) (by decide +kernel) (by decide +kernel)
theorem s_plus_share : COp.fn .eq (.str "plus") (.str "share") = some (.bl false) := eqS _ _ _ (by decide +kernel) (by decide +kernel) (by decide +kernel)
theorem s_times_plus : COp.fn .eq (.str "times") (.str "plus") = some (.bl false) := eqS _ _ _ (by decide +kernel) (by decide +kernel) (by decide +kernel)
theorem s_times_times : COp.fn .eq (.str "times") (.str "times") = some (.bl true) := eqS _ _ _ (by decide +kernel) (by decide +kernel) (by decide +kernel)
theorem s_times_share : COp.fn .eq (.str "times") (.str "share") = some (.bl false) := eqS _ _ _ (by decide +kernel) (by decide +kernel) (by decide +kernel)
theorem s_share_plus : COp.fn .eq (.str "share") (.str "plus") = some (.bl false) := eqS _ _ _ (by decide +kernel) (by decide +kernel) (by decide +kernel)
theorem s_share_times : COp.fn .eq (.str "share") (.str "times") = some (.bl false) := eqS _ _ _ (by decide +kernel) (by decide +kernel) (by decide +kernel)
theorem s_share_share : COp.fn .eq (.str "share") (.str "share") = some (.bl true) := eqS _ _ _ (by decide +kernel) (by decide +kernel) (by decide +kernel)
theorem plain_plus : fn_plain [.str "plus"] = .ok (.tup [.tup [.tup [.int 0, .int 0, .int 1], .tup [.int 0, .int 1, .int 0]], .tup [.tup [.int 2, .int 0, .int 1], .tup [.int 0, .int 1, .int 0]], .tup [.tup [.int 2, .int 0, .int 2], .tup [.int 0, .int 1, .int 0]]]) := by
  rw [fn_plain_eq]
  have e0 : fn_scale [.tup [.int 0, .int 0, .int 1], .tup [.int 0, .int 1, .int 0]] = .ok (.tup [.tup [.int 0, .int 0, .int 1], .tup [.int 0, .int 1, .int 0]]) := (scale_eq ⟨0, 0, 1⟩ ⟨0, 1, 0⟩ (by decide) (bv _ (by decide)) (bv _ (by decide))).trans (by rw [show n61 ⟨0, 0, 1⟩ ⟨0, 1, 0⟩ = ⟨0, 0, 1⟩ by decide, show n62 ⟨0, 0, 1⟩ ⟨0, 1, 0⟩ = ⟨0, 1, 0⟩ by decide]; rfl)
  have e1 : fn_scale [.tup [.int 2, .int 0, .int 1], .tup [.int 0, .int 1, .int 0]] = .ok (.tup [.tup [.int 2, .int 0, .int 1], .tup [.int 0, .int 1, .int 0]]) := (scale_eq ⟨2, 0, 1⟩ ⟨0, 1, 0⟩ (by decide) (bv _ (by decide)) (bv _ (by decide))).trans (by rw [show n61 ⟨2, 0, 1⟩ ⟨0, 1, 0⟩ = ⟨2, 0, 1⟩ by decide, show n62 ⟨2, 0, 1⟩ ⟨0, 1, 0⟩ = ⟨0, 1, 0⟩ by decide]; rfl)
  have e2 : fn_scale [.tup [.int 2, .int 0, .int 2], .tup [.int 0, .int 1, .int 0]] = .ok (.tup [.tup [.int 2, .int 0, .int 2], .tup [.int 0, .int 1, .int 0]]) := (scale_eq ⟨2, 0, 2⟩ ⟨0, 1, 0⟩ (by decide) (bv _ (by decide)) (bv _ (by decide))).trans (by rw [show n61 ⟨2, 0, 2⟩ ⟨0, 1, 0⟩ = ⟨2, 0, 2⟩ by decide, show n62 ⟨2, 0, 2⟩ ⟨0, 1, 0⟩ = ⟨0, 1, 0⟩ by decide]; rfl)
  have ch : fn_chart [.tup [.tup [.int 0, .int 0, .int 1], .tup [.int 0, .int 1, .int 0]], .tup [.tup [.int 2, .int 0, .int 1], .tup [.int 0, .int 1, .int 0]], .tup [.tup [.int 2, .int 0, .int 2], .tup [.int 0, .int 1, .int 0]]] = .ok (.tup [.tup [.tup [.int 0, .int 0, .int 1], .tup [.int 0, .int 1, .int 0]], .tup [.tup [.int 2, .int 0, .int 1], .tup [.int 0, .int 1, .int 0]], .tup [.tup [.int 2, .int 0, .int 2], .tup [.int 0, .int 1, .int 0]]]) := chart_eq ⟨0, 0, 1⟩ ⟨0, 1, 0⟩ ⟨2, 0, 1⟩ ⟨0, 1, 0⟩ ⟨2, 0, 2⟩ ⟨0, 1, 0⟩ (by decide) (by decide) (by decide) (bv _ (by decide)) (bv _ (by decide)) (bv _ (by decide)) (bv _ (by decide)) (bv _ (by decide)) (bv _ (by decide)) (by decide)
  simp_arith [sh_plain, e0, e1, e2, ch, s_plus_plus, s_plus_times, s_plus_share, s_times_plus, s_times_times, s_times_share, s_share_plus, s_share_times, s_share_share]
theorem plain_times : fn_plain [.str "times"] = .ok (.tup [.tup [.tup [.int 0, .int 0, .int 1], .tup [.int 0, .int 1, .int 0]], .tup [.tup [.int 1, .int 0, .int 1], .tup [.int 0, .int 0, .int 1]], .tup [.tup [.int (-1), .int 0, .int (-1)], .tup [.int 0, .int 1, .int 0]]]) := by
  rw [fn_plain_eq]
  have e0 : fn_scale [.tup [.int 0, .int 0, .int 1], .tup [.int 0, .int 1, .int 0]] = .ok (.tup [.tup [.int 0, .int 0, .int 1], .tup [.int 0, .int 1, .int 0]]) := (scale_eq ⟨0, 0, 1⟩ ⟨0, 1, 0⟩ (by decide) (bv _ (by decide)) (bv _ (by decide))).trans (by rw [show n61 ⟨0, 0, 1⟩ ⟨0, 1, 0⟩ = ⟨0, 0, 1⟩ by decide, show n62 ⟨0, 0, 1⟩ ⟨0, 1, 0⟩ = ⟨0, 1, 0⟩ by decide]; rfl)
  have e1 : fn_scale [.tup [.int 1, .int 0, .int 1], .tup [.int 0, .int 0, .int 1]] = .ok (.tup [.tup [.int 1, .int 0, .int 1], .tup [.int 0, .int 0, .int 1]]) := (scale_eq ⟨1, 0, 1⟩ ⟨0, 0, 1⟩ (by decide) (bv _ (by decide)) (bv _ (by decide))).trans (by rw [show n61 ⟨1, 0, 1⟩ ⟨0, 0, 1⟩ = ⟨1, 0, 1⟩ by decide, show n62 ⟨1, 0, 1⟩ ⟨0, 0, 1⟩ = ⟨0, 0, 1⟩ by decide]; rfl)
  have e2 : fn_scale [.tup [.int (-1), .int 0, .int (-1)], .tup [.int 0, .int 1, .int 0]] = .ok (.tup [.tup [.int (-1), .int 0, .int (-1)], .tup [.int 0, .int 1, .int 0]]) := (scale_eq ⟨-1, 0, -1⟩ ⟨0, 1, 0⟩ (by decide) (bv _ (by decide)) (bv _ (by decide))).trans (by rw [show n61 ⟨-1, 0, -1⟩ ⟨0, 1, 0⟩ = ⟨-1, 0, -1⟩ by decide, show n62 ⟨-1, 0, -1⟩ ⟨0, 1, 0⟩ = ⟨0, 1, 0⟩ by decide]; rfl)
  have ch : fn_chart [.tup [.tup [.int 0, .int 0, .int 1], .tup [.int 0, .int 1, .int 0]], .tup [.tup [.int 1, .int 0, .int 1], .tup [.int 0, .int 0, .int 1]], .tup [.tup [.int (-1), .int 0, .int (-1)], .tup [.int 0, .int 1, .int 0]]] = .ok (.tup [.tup [.tup [.int 0, .int 0, .int 1], .tup [.int 0, .int 1, .int 0]], .tup [.tup [.int 1, .int 0, .int 1], .tup [.int 0, .int 0, .int 1]], .tup [.tup [.int (-1), .int 0, .int (-1)], .tup [.int 0, .int 1, .int 0]]]) := chart_eq ⟨0, 0, 1⟩ ⟨0, 1, 0⟩ ⟨1, 0, 1⟩ ⟨0, 0, 1⟩ ⟨-1, 0, -1⟩ ⟨0, 1, 0⟩ (by decide) (by decide) (by decide) (bv _ (by decide)) (bv _ (by decide)) (bv _ (by decide)) (bv _ (by decide)) (bv _ (by decide)) (bv _ (by decide)) (by decide)
  simp_arith [sh_plain, e0, e1, e2, ch, s_plus_plus, s_plus_times, s_plus_share, s_times_plus, s_times_times, s_times_share, s_share_plus, s_share_times, s_share_share]
theorem plain_share : fn_plain [.str "share"] = .ok (.tup [.tup [.tup [.int 0, .int 0, .int 1], .tup [.int 1, .int 0, .int 0]], .tup [.tup [.int 0, .int 0, .int 1], .tup [.int 0, .int 1, .int 0]], .tup [.tup [.int 0, .int 0, .int 1], .tup [.int 1, .int 1, .int 0]]]) := by
  rw [fn_plain_eq]
  have e0 : fn_scale [.tup [.int 0, .int 0, .int 1], .tup [.int 1, .int 0, .int 0]] = .ok (.tup [.tup [.int 0, .int 0, .int 1], .tup [.int 1, .int 0, .int 0]]) := (scale_eq ⟨0, 0, 1⟩ ⟨1, 0, 0⟩ (by decide) (bv _ (by decide)) (bv _ (by decide))).trans (by rw [show n61 ⟨0, 0, 1⟩ ⟨1, 0, 0⟩ = ⟨0, 0, 1⟩ by decide, show n62 ⟨0, 0, 1⟩ ⟨1, 0, 0⟩ = ⟨1, 0, 0⟩ by decide]; rfl)
  have e1 : fn_scale [.tup [.int 0, .int 0, .int 1], .tup [.int 0, .int 1, .int 0]] = .ok (.tup [.tup [.int 0, .int 0, .int 1], .tup [.int 0, .int 1, .int 0]]) := (scale_eq ⟨0, 0, 1⟩ ⟨0, 1, 0⟩ (by decide) (bv _ (by decide)) (bv _ (by decide))).trans (by rw [show n61 ⟨0, 0, 1⟩ ⟨0, 1, 0⟩ = ⟨0, 0, 1⟩ by decide, show n62 ⟨0, 0, 1⟩ ⟨0, 1, 0⟩ = ⟨0, 1, 0⟩ by decide]; rfl)
  have e2 : fn_scale [.tup [.int 0, .int 0, .int 1], .tup [.int 1, .int 1, .int 0]] = .ok (.tup [.tup [.int 0, .int 0, .int 1], .tup [.int 1, .int 1, .int 0]]) := (scale_eq ⟨0, 0, 1⟩ ⟨1, 1, 0⟩ (by decide) (bv _ (by decide)) (bv _ (by decide))).trans (by rw [show n61 ⟨0, 0, 1⟩ ⟨1, 1, 0⟩ = ⟨0, 0, 1⟩ by decide, show n62 ⟨0, 0, 1⟩ ⟨1, 1, 0⟩ = ⟨1, 1, 0⟩ by decide]; rfl)
  have ch : fn_chart [.tup [.tup [.int 0, .int 0, .int 1], .tup [.int 1, .int 0, .int 0]], .tup [.tup [.int 0, .int 0, .int 1], .tup [.int 0, .int 1, .int 0]], .tup [.tup [.int 0, .int 0, .int 1], .tup [.int 1, .int 1, .int 0]]] = .ok (.tup [.tup [.tup [.int 0, .int 0, .int 1], .tup [.int 1, .int 0, .int 0]], .tup [.tup [.int 0, .int 0, .int 1], .tup [.int 0, .int 1, .int 0]], .tup [.tup [.int 0, .int 0, .int 1], .tup [.int 1, .int 1, .int 0]]]) := chart_eq ⟨0, 0, 1⟩ ⟨1, 0, 0⟩ ⟨0, 0, 1⟩ ⟨0, 1, 0⟩ ⟨0, 0, 1⟩ ⟨1, 1, 0⟩ (by decide) (by decide) (by decide) (bv _ (by decide)) (bv _ (by decide)) (bv _ (by decide)) (bv _ (by decide)) (bv _ (by decide)) (bv _ (by decide)) (by decide)
  simp_arith [sh_plain, e0, e1, e2, ch, s_plus_plus, s_plus_times, s_plus_share, s_times_plus, s_times_times, s_times_share, s_share_plus, s_share_times, s_share_share]
theorem vl0 (u w : Int) : idxD (vl u w) (.int 0) = some (.int u) := rfl
theorem vl1 (u w : Int) : idxD (vl u w) (.int 1) = some (.int w) := rfl
theorem vl_len (u w : Int) : lenL [vl u w] = some (.int 2) := rfl
theorem vl_tup (u w : Int) : isiD "tuple" (vl u w) = some (.bl true) := rfl
theorem eqs_vl (u w u' w' : Int) : eqs [.int u, .int w] [.int u', .int w'] = (decide (u = u') && decide (w = w')) := by
  rw [eqs_cc, eqs_cc, eqs_nn, eq1_ii, eq1_ii, Bool.and_true]
theorem shp_vl {n : Nat} {u w : Int} : shp (n + 1) (vl u w) = true := by
  unfold vl
  rw [shp_t, shps_c, shps_c, shps_n, shp_i, shp_i]
  rfl
theorem ne_vl (u w u' w' : Int) : COp.fn .ne (vl u w) (vl u' w') = some (.bl (!(decide (u = u') && decide (w = w')))) := by
  have h := shp_vl (n := 63) (u := u) (w := w)
  have h' := shp_vl (n := 63) (u := u') (w := w')
  unfold vl at *
  rw [cop_ne_tt h h', eqs_vl]
theorem eq_vl (u w u' w' : Int) : COp.fn .eq (vl u w) (vl u' w') = some (.bl (decide (u = u') && decide (w = w'))) := by
  have h := shp_vl (n := 63) (u := u) (w := w)
  have h' := shp_vl (n := 63) (u := u') (w := w')
  unfold vl at *
  rw [cop_eq_tt h h', eqs_vl]
-- fuel__law_divisor := fun δ => match δ[1]? with | some (Sl.va (D.int b)) => b.natAbs + 1 | _ => 0
theorem ldivisor_eq (a b : Int) : fn__law_divisor [.int a, .int b] = .ok (.int (Int.gcd a b)) := by
  rw [fn__law_divisor_eq]
  obtain ⟨g, e, q⟩ := gcd_loop (b.natAbs + 1) a b (Nat.lt_succ_self _)
  have e : sWhl [] fuel__law_divisor gcdC gcdB [.va (.int a), .va (.int b)] = .nx [.va (.int g), .va (.int 0)] := e
  show endD (bindS (sWhl [] fuel__law_divisor gcdC gcdB [.va (.int a), .va (.int b)]) _) = _
  rw [e, ← q]
  simp_arith []
  split <;> omega
theorem cell_ex (ns : List Int) (k : Int) (hk : 0 ≤ k) : ∃ c, fn__law_cell_at [.lst (ns.map D.int), .int k] = .ok (.int c) := by
  rw [fn__law_cell_at_eq]
  obtain ⟨n, rfl⟩ := Int.eq_ofNat_of_zero_le hk
  by_cases h : (n : Int) < ns.length
  · have h' : n < ns.length := by omega
    simp_arith [sh__law_cell_at, h, atI_n, h']
  · simp_arith [sh__law_cell_at, h]
theorem llowest_eq (a b : Int) (h : b ≠ 0) (hb : B 8000 b) : fn__law_lowest [.int a, .int b] = .ok (fr (Rat.divInt a b)) := by
  rw [fn__law_lowest_eq]
  unfold fr
  obtain ⟨e1, e2⟩ := fr_divInt (a := a) h
  have h1 : byQ a b ≠ 0 := byQ_ne h
  have h2 : B 8999 (byQ a b) := (byQ_B h hb).mono (by decide)
  rw [e1, e2]
  by_cases hn : b < 0
  · have e : byQ a b = -(Int.gcd a b : Int) := if_pos hn
    have e' : 0 - (Int.gcd a b : Int) = byQ a b := by omega
    generalize byQ a b = y at *
    simp_arith [sh__law_lowest, ldivisor_eq, hn, e', fdivD_i]
  · have e : byQ a b = (Int.gcd a b : Int) := if_neg hn
    have ed := ldivisor_eq a b
    rw [← e] at ed
    have h0 : 0 ≤ byQ a b := by omega
    rw [Int.fdiv_eq_ediv_of_nonneg _ h0, Int.fdiv_eq_ediv_of_nonneg _ h0]
    generalize byQ a b = y at *
    simp_arith [sh__law_lowest, ed, hn]
theorem lcrossed_eq (a b : V3) (ha : V3.BV 2000 a) (hb : V3.BV 2000 b) : fn__law_crossed [a.tr, b.tr] = .ok (V3.cr a b).tr := by
  rw [fn__law_crossed_eq]
  obtain ⟨a1, a2, a3⟩ := ha
  obtain ⟨b1, b2, b3⟩ := hb
  unfold V3.tr V3.cr
  simp_arith [sh__law_crossed]
theorem forF_cons_fin {ws : List Nat} {g : D → En → Option En} {b : SDen} {d : D} {ds : List D} {δ δ1 δ2 : En} (e1 : g d δ = some δ1) (e2 : finK ws (b δ1) = some δ2) : forF ws g b (d :: ds) δ = forF ws g b ds δ2 := by
  rw [forF_c, e1]
  show loopK ws (b δ1) (forF ws g b ds) = _
  cases h : b δ1 with
  | nx δ' => rw [h] at e2; cases e2; rfl
  | ct δ' => rw [h] at e2; cases e2; rfl
  | bk δ' => rw [h] at e2; cases e2
  | rt d δ' => rw [h] at e2; cases e2
  | ro d δ' => rw [h] at e2; cases e2
  | rz d δ' => rw [h] at e2; cases e2
  | bad => rw [h] at e2; cases e2
theorem draws_loop (s0 s1 : Sl) (v : Int) : forF [4] (Tg.var 4).st lb1__law_draws [.int 0, .int 1, .int 2, .int 3, .int 4, .int 5, .int 6, .int 7] [s0, s1, .va (.int v), .ow (.lst []), .no] = .nx [s0, s1, .va (.int (v / 1000 / 1000 / 1000 / 1000 / 1000 / 1000 / 1000 / 1000)), .ow (.lst [.int (v % 1000), .int (v / 1000 % 1000), .int (v / 1000 / 1000 % 1000), .int (v / 1000 / 1000 / 1000 % 1000), .int (v / 1000 / 1000 / 1000 / 1000 % 1000), .int (v / 1000 / 1000 / 1000 / 1000 / 1000 % 1000), .int (v / 1000 / 1000 / 1000 / 1000 / 1000 / 1000 % 1000), .int (v / 1000 / 1000 / 1000 / 1000 / 1000 / 1000 / 1000 % 1000)]), .no] := by
  simp_arith [lb1__law_draws]
def dgs (v : Int) : D := .lst [.int (v % 1000), .int (v / 1000 % 1000), .int (v / 1000 / 1000 % 1000), .int (v / 1000 / 1000 / 1000 % 1000), .int (v / 1000 / 1000 / 1000 / 1000 % 1000), .int (v / 1000 / 1000 / 1000 / 1000 / 1000 % 1000), .int (v / 1000 / 1000 / 1000 / 1000 / 1000 / 1000 % 1000), .int (v / 1000 / 1000 / 1000 / 1000 / 1000 / 1000 / 1000 % 1000)]
theorem draws_ex (ns : List Int) (k : Int) (h0 : 0 ≤ k) (h1 : k < 100) : ∃ v : Int, fn__law_draws [.lst (ns.map D.int), .int k] = .ok (dgs v) := by
  rw [fn__law_draws_eq]
  obtain ⟨c, ec⟩ := cell_ex ns k h0
  obtain ⟨d, ed⟩ := cell_ex ns 0 (by decide)
  have kB : B 10 k := B.le 100 (by omega) (by omega) (by decide)
  have lp := fun s0 s1 v => draws_loop s0 s1 v
  generalize D.lst (ns.map D.int) = L at *
  by_cases h : d % 2 = 1
  · have m0 := Int.emod_nonneg c (show (1000003 : Int) ≠ 0 by decide)
    have m1 := Int.emod_lt_of_pos c (show (0 : Int) < 1000003 by decide)
    have cB : B 20 (c % 1000003) := B.le 1000003 (by omega) (by omega) (by decide)
    generalize hw : (c % 1000003 + 7 + k) * 48271 = w at *
    have wB : B 60 w := by rw [← hw]; apply (B.mul (B.add (B.add cB (B.lit 7)) kB) (B.lit 48271)).mono; decide
    have n0 := Int.emod_nonneg (w * w) (show (2305843009213693951 : Int) ≠ 0 by decide)
    have n1 := Int.emod_lt_of_pos (w * w) (show (0 : Int) < 2305843009213693951 by decide)
    generalize hx : w * w % 2305843009213693951 = x at *
    have xB : B 62 x := B.le 2305843009213693951 (by omega) (by omega) (by decide)
    refine ⟨x * x % 2305843009213693951, ?_⟩
    have lp := fun s0 s1 => lp s0 s1 (x * x % 2305843009213693951)
    unfold dgs
    simp_arith [sh__law_draws, sFor_, kFor_ok, rngK_1, rngD_0, rngD_s, ec, ed, h, hw, hx, lp]
  · refine ⟨c, ?_⟩
    unfold dgs
    simp_arith [sh__law_draws, sFor_, kFor_ok, rngK_1, rngD_0, rngD_s, ec, ed, h, lp]
theorem ltriple_ex (c : Int) : ∃ v : V3, fn__law_triple [.int c] = .ok v.tr ∧ V3.BV 10 v := by
  refine ⟨⟨c % 9 - 4, c / 9 % 9 - 4, c / 81 % 9 - 4⟩, ?_, B.le 9 (by dsimp only; omega) (by dsimp only; omega) (by decide), B.le 9 (by dsimp only; omega) (by dsimp only; omega) (by decide), B.le 9 (by dsimp only; omega) (by dsimp only; omega) (by decide)⟩
  rw [fn__law_triple_eq, V3.tr_mk]
  simp_arith [sh__law_triple]
def ab (z : Int) : Int := if z < 0 then -z else z
theorem ab_B {n : Nat} {z : Int} (h : B n z) : B n (ab z) := by
  unfold ab
  split
  · exact h.neg
  · exact h
theorem lsc_abs (a b c : Int) (v w p q : V3) (R S : D) (e1 : fn__law_triple [.int a] = .ok v.tr) (e2 : fn__law_triple [.int b] = .ok w.tr) (bv : V3.BV 10 v)
    (hp : (¬c % 3 > 0 ∧ p = v ∧ q = w) ∨ (c % 3 > 0 ∧ p = ⟨v.x, v.y, 1 + ab v.z⟩ ∧ ((c % 2 = 0 ∧ q = ⟨w.x, w.y, 0⟩) ∨ (c % 2 = 1 ∧ q = ⟨w.x, w.y, ab w.z⟩))))
    (cr : fn__law_crossed [p.tr, q.tr] = .ok R) (bc : Bool) (ce : COp.fn .eq R (.tup [.int 0, .int 0, .int 0]) = some (.bl bc)) (s : if bc = true then fn_scale [.tup [.int (a % 5), .int 0, .int 1], .tup [.int (b % 3), .int 1, .int 0]] = .ok S else fn_scale [p.tr, q.tr] = .ok S) :
    fn__law_scale [.int a, .int b, .int c] = .ok S := by
  rw [fn__law_scale_eq]
  have i0 : idxD v.tr (.int 0) = some (.int v.x) := rfl
  have i1 : idxD v.tr (.int 1) = some (.int v.y) := rfl
  have i2 : idxD v.tr (.int 2) = some (.int v.z) := rfl
  have j0 : idxD w.tr (.int 0) = some (.int w.x) := rfl
  have j1 : idxD w.tr (.int 1) = some (.int w.y) := rfl
  have j2 : idxD w.tr (.int 2) = some (.int w.z) := rfl
  have a1 : absL [.int v.z] = some (.int (ab v.z)) := rfl
  have a2 : absL [.int w.z] = some (.int (ab w.z)) := rfl
  rcases hp with ⟨h, rfl, rfl⟩ | ⟨h, rfl, ⟨h2, rfl⟩ | ⟨h2, rfl⟩⟩
  · have h' : c % 3 ≤ 0 := by omega
    cases bc
    · rw [if_neg (by decide)] at s
      generalize p.tr = P at *
      generalize q.tr = Q at *
      simp_arith [-cop_eq_tt, -abs_i, sh__law_scale, e1, e2, h, h', cr, ce, s]
    · rw [if_pos rfl] at s
      generalize p.tr = P at *
      generalize q.tr = Q at *
      simp_arith [-cop_eq_tt, -abs_i, sh__law_scale, e1, e2, h, h', cr, ce, s]
  · rw [V3.tr_mk, V3.tr_mk] at cr s
    generalize v.tr = P at *
    generalize w.tr = Q at *
    generalize ab v.z = av at *
    generalize ab w.z = aw at *
    cases bc
    · rw [if_neg (by decide)] at s
      simp_arith [-cop_eq_tt, -abs_i, sh__law_scale, e1, e2, h, h2, i0, i1, i2, j0, j1, j2, a1, a2, cr, ce, s]
    · rw [if_pos rfl] at s
      simp_arith [-cop_eq_tt, -abs_i, sh__law_scale, e1, e2, h, h2, i0, i1, i2, j0, j1, j2, a1, a2, cr, ce, s]
  · rw [V3.tr_mk, V3.tr_mk] at cr s
    generalize v.tr = P at *
    generalize w.tr = Q at *
    generalize ab v.z = av at *
    generalize ab w.z = aw at *
    cases bc
    · rw [if_neg (by decide)] at s
      simp_arith [-cop_eq_tt, -abs_i, sh__law_scale, e1, e2, h, h2, i0, i1, i2, j0, j1, j2, a1, a2, cr, ce, s]
    · rw [if_pos rfl] at s
      simp_arith [-cop_eq_tt, -abs_i, sh__law_scale, e1, e2, h, h2, i0, i1, i2, j0, j1, j2, a1, a2, cr, ce, s]
theorem lscale_ex (a b c : Int) : ∃ p q : V3, fn__law_scale [.int a, .int b, .int c] = .ok (scl p q) ∧ Skn 20 p q ∧ N6 p q := by
  obtain ⟨v, e1, bv⟩ := ltriple_ex a
  obtain ⟨w, e2, bw⟩ := ltriple_ex b
  have fin : ∀ p q : V3, V3.BV 12 p → V3.BV 12 q → ((¬c % 3 > 0 ∧ p = v ∧ q = w) ∨ (c % 3 > 0 ∧ p = ⟨v.x, v.y, 1 + ab v.z⟩ ∧ ((c % 2 = 0 ∧ q = ⟨w.x, w.y, 0⟩) ∨ (c % 2 = 1 ∧ q = ⟨w.x, w.y, ab w.z⟩)))) → ∃ p q : V3, fn__law_scale [.int a, .int b, .int c] = .ok (scl p q) ∧ Skn 20 p q ∧ N6 p q := fun p q bp bq hp => by
    have cr := lcrossed_eq p q (bp.mono (by decide)) (bq.mono (by decide))
    have ce := V3.cop_eq_tr (p := V3.cr p q) (q := V3.o3)
    by_cases h : V3.cr p q = .o3
    · have h3 : V3.cr ⟨a % 5, 0, 1⟩ ⟨b % 3, 1, 0⟩ ≠ .o3 := by
        unfold V3.cr V3.o3
        intro z
        have := congrArg V3.x z
        dsimp only at this
        omega
      have x1 : V3.BV 12 ⟨a % 5, 0, 1⟩ := ⟨B.le 9 (by dsimp only; omega) (by dsimp only; omega) (by decide), B.le 9 (by dsimp only; omega) (by dsimp only; omega) (by decide), B.le 9 (by dsimp only; omega) (by dsimp only; omega) (by decide)⟩
      have x2 : V3.BV 12 ⟨b % 3, 1, 0⟩ := ⟨B.le 9 (by dsimp only; omega) (by dsimp only; omega) (by decide), B.le 9 (by dsimp only; omega) (by dsimp only; omega) (by decide), B.le 9 (by dsimp only; omega) (by dsimp only; omega) (by decide)⟩
      have s := scale_eq ⟨a % 5, 0, 1⟩ ⟨b % 3, 1, 0⟩ h3 (x1.mono (by decide)) (x2.mono (by decide))
      have nb := n6_B x1 x2
      rw [decide_eq_true h] at ce
      exact ⟨_, _, lsc_abs a b c v w p q _ _ e1 e2 bv hp cr true ce (by rw [if_pos rfl]; exact s), ⟨n6_cr h3, nb.1.mono (by decide), nb.2.mono (by decide)⟩, n6_n6 h3⟩
    · have s := scale_eq p q h (bp.mono (by decide)) (bq.mono (by decide))
      have nb := n6_B bp bq
      rw [decide_eq_false h] at ce
      exact ⟨_, _, lsc_abs a b c v w p q _ _ e1 e2 bv hp cr false ce (by rw [if_neg (by decide)]; exact s), ⟨n6_cr h, nb.1.mono (by decide), nb.2.mono (by decide)⟩, n6_n6 h⟩
  by_cases h : c % 3 > 0
  · have bp : V3.BV 12 ⟨v.x, v.y, 1 + ab v.z⟩ := ⟨bv.1.mono (by decide), bv.2.1.mono (by decide), (B.add ((B.lit 1).mono (show _ ≤ 10 by decide)) (ab_B bv.2.2)).mono (by decide)⟩
    have h2 : c % 2 = 0 ∨ c % 2 = 1 := by omega
    rcases h2 with h2 | h2
    · exact fin _ ⟨w.x, w.y, 0⟩ bp ⟨bw.1.mono (by decide), bw.2.1.mono (by decide), (B.lit 0).mono (by decide)⟩ (.inr ⟨h, rfl, .inl ⟨h2, rfl⟩⟩)
    · exact fin _ ⟨w.x, w.y, ab w.z⟩ bp ⟨bw.1.mono (by decide), bw.2.1.mono (by decide), (ab_B bw.2.2).mono (by decide)⟩ (.inr ⟨h, rfl, .inr ⟨h2, rfl⟩⟩)
  · exact fin v w (bv.mono (by decide)) (bw.mono (by decide)) (.inl ⟨h, rfl, rfl⟩)
theorem ok3 {p1 q1 p2 q2 p3 q3 : V3} (a1 : V3.cr p1 q1 ≠ .o3) (a2 : V3.cr p2 q2 ≠ .o3) (a3 : V3.cr p3 q3 ≠ .o3) (b : (p1.x.natAbs < 8 ∧ p1.y.natAbs < 8 ∧ p1.z.natAbs < 8) ∧ (q1.x.natAbs < 8 ∧ q1.y.natAbs < 8 ∧ q1.z.natAbs < 8) ∧ (p2.x.natAbs < 8 ∧ p2.y.natAbs < 8 ∧ p2.z.natAbs < 8) ∧ (q2.x.natAbs < 8 ∧ q2.y.natAbs < 8 ∧ q2.z.natAbs < 8) ∧ (p3.x.natAbs < 8 ∧ p3.y.natAbs < 8 ∧ p3.z.natAbs < 8) ∧ (q3.x.natAbs < 8 ∧ q3.y.natAbs < 8 ∧ q3.z.natAbs < 8))
    (hn : ¬((V3.cr p1 q1).nm = (V3.cr p2 q2).nm ∧ (V3.cr p2 q2).nm = (V3.cr p3 q3).nm)) : Ckn 20 p1 q1 p2 q2 p3 q3 :=
  have W : ∀ (v : V3), (v.x.natAbs < 8 ∧ v.y.natAbs < 8 ∧ v.z.natAbs < 8) → V3.BV 20 v := fun v h => ⟨B.le 8 (by omega) (by omega) (by decide), B.le 8 (by omega) (by omega) (by decide), B.le 8 (by omega) (by omega) (by decide)⟩
  ⟨⟨a1, W _ b.1, W _ b.2.1⟩, ⟨a2, W _ b.2.2.1, W _ b.2.2.2.1⟩, ⟨a3, W _ b.2.2.2.2.1, W _ b.2.2.2.2.2⟩, hn⟩
theorem plain_ex (c : Int) : ∃ W : D, idxD (.lst [.str "plus", .str "times", .str "share"]) (.int (c % 3)) = some W ∧ ∃ p1 q1 p2 q2 p3 q3 : V3, fn_plain [W] = .ok (chD p1 q1 p2 q2 p3 q3) ∧ Ckn 20 p1 q1 p2 q2 p3 q3 ∧ N6 p1 q1 ∧ N6 p2 q2 ∧ N6 p3 q3 := by
  have h : c % 3 = 0 ∨ c % 3 = 1 ∨ c % 3 = 2 := by omega
  rcases h with h | h | h <;> rw [h]
  · exact ⟨_, rfl, ⟨0, 0, 1⟩, ⟨0, 1, 0⟩, ⟨2, 0, 1⟩, ⟨0, 1, 0⟩, ⟨2, 0, 2⟩, ⟨0, 1, 0⟩, plain_plus, ok3 (by decide) (by decide) (by decide) (by decide) (by decide), by unfold N6; decide, by unfold N6; decide, by unfold N6; decide⟩
  · exact ⟨_, rfl, ⟨0, 0, 1⟩, ⟨0, 1, 0⟩, ⟨1, 0, 1⟩, ⟨0, 0, 1⟩, ⟨-1, 0, -1⟩, ⟨0, 1, 0⟩, plain_times, ok3 (by decide) (by decide) (by decide) (by decide) (by decide), by unfold N6; decide, by unfold N6; decide, by unfold N6; decide⟩
  · exact ⟨_, rfl, ⟨0, 0, 1⟩, ⟨1, 0, 0⟩, ⟨0, 0, 1⟩, ⟨0, 1, 0⟩, ⟨0, 0, 1⟩, ⟨1, 1, 0⟩, plain_share, ok3 (by decide) (by decide) (by decide) (by decide) (by decide), by unfold N6; decide, by unfold N6; decide, by unfold N6; decide⟩
theorem lch_abs (L S1 S2 S3 L1 L2 L3 R W : D) (k d0 d1 d2 d3 d4 d5 d6 d7 : Int) (dr : fn__law_draws [L, .int k] = .ok (.lst [.int d0, .int d1, .int d2, .int d3, .int d4, .int d5, .int d6, .int d7])) (s1 : fn__law_scale [.int d0, .int d1, .int (d6 / 1)] = .ok S1) (s2 : fn__law_scale [.int d2, .int d3, .int (d6 / 2)] = .ok S2) (s3 : fn__law_scale [.int d4, .int d5, .int (d6 / 3)] = .ok S3)
    (l1 : fn_line_of [S1] = .ok L1) (l2 : fn_line_of [S2] = .ok L2) (l3 : fn_line_of [S3] = .ok L3) (b1 b2 : Bool) (c1 : COp.fn .eq L1 L2 = some (.bl b1)) (c2 : COp.fn .eq L2 L3 = some (.bl b2))
    (hR : (b1 = true ∧ b2 = true ∧ idxD (.lst [.str "plus", .str "times", .str "share"]) (.int (d7 % 3)) = some W ∧ fn_plain [W] = .ok R) ∨ (¬(b1 = true ∧ b2 = true) ∧ d7 % 4 = 3 ∧ idxD (.lst [.str "plus", .str "times", .str "share"]) (.int (d7 / 4 % 3)) = some W ∧ fn_plain [W] = .ok R) ∨ (¬(b1 = true ∧ b2 = true) ∧ d7 % 4 ≠ 3 ∧ fn_chart [S1, S2, S3] = .ok R)) :
    fn__law_chart [L, .int k] = .ok R := by
  rw [fn__law_chart_eq]
  have q1 : fdivD (.int d6) (.int 1) = some (.int (d6 / 1)) := fdivD_p (divOk_B (by decide) ((B.lit 1).mono (by decide))) (by decide)
  have q2 : fdivD (.int d6) (.int 2) = some (.int (d6 / 2)) := fdivD_p (divOk_B (by decide) ((B.lit 2).mono (by decide))) (by decide)
  have q3 : fdivD (.int d6) (.int 3) = some (.int (d6 / 3)) := fdivD_p (divOk_B (by decide) ((B.lit 3).mono (by decide))) (by decide)
  have q4 : fdivD (.int d7) (.int 4) = some (.int (d7 / 4)) := fdivD_p (divOk_B (by decide) ((B.lit 4).mono (by decide))) (by decide)
  generalize d6 / 1 = d61 at *
  rcases hR with ⟨rfl, rfl, iW, pl⟩ | ⟨hb, h, iW, pl⟩ | ⟨hb, h, pl⟩
  · simp_arith [-cop_eq_tt, -fdivD_p, sh__law_chart, ce1__law_chart, ce2__law_chart, rngK_1, rngD_0, rngD_s, dr, q1, q2, q3, s1, s2, s3, l1, l2, l3, c1, c2, iW, pl]
  · cases b1 <;> cases b2 <;> first
      | exact absurd ⟨rfl, rfl⟩ hb
      | simp_arith [-cop_eq_tt, -fdivD_p, sh__law_chart, ce1__law_chart, ce2__law_chart, rngK_1, rngD_0, rngD_s, dr, q1, q2, q3, q4, s1, s2, s3, l1, l2, l3, c1, c2, h, iW, pl]
  · cases b1 <;> cases b2 <;> first
      | exact absurd ⟨rfl, rfl⟩ hb
      | simp_arith [-cop_eq_tt, -fdivD_p, sh__law_chart, ce1__law_chart, ce2__law_chart, rngK_1, rngD_0, rngD_s, dr, q1, q2, q3, s1, s2, s3, l1, l2, l3, c1, c2, h, pl]
theorem lchart_ex (ns : List Int) (k : Int) (h0 : 0 ≤ k) (h1 : k < 100) : ∃ p1 q1 p2 q2 p3 q3 : V3, fn__law_chart [.lst (ns.map D.int), .int k] = .ok (chD p1 q1 p2 q2 p3 q3) ∧ Ckn 20 p1 q1 p2 q2 p3 q3 ∧ N6 p1 q1 ∧ N6 p2 q2 ∧ N6 p3 q3 := by
  obtain ⟨v, dr⟩ := draws_ex ns k h0 h1
  unfold dgs at dr
  generalize v / 1000 / 1000 / 1000 / 1000 / 1000 / 1000 / 1000 % 1000 = d7 at dr
  generalize v / 1000 / 1000 / 1000 / 1000 / 1000 / 1000 % 1000 = d6 at dr
  generalize v / 1000 / 1000 / 1000 / 1000 / 1000 % 1000 = d5 at dr
  generalize v / 1000 / 1000 / 1000 / 1000 % 1000 = d4 at dr
  generalize v / 1000 / 1000 / 1000 % 1000 = d3 at dr
  generalize v / 1000 / 1000 % 1000 = d2 at dr
  generalize v / 1000 % 1000 = d1 at dr
  generalize v % 1000 = d0 at dr
  obtain ⟨p1, q1, s1, k1, n1⟩ := lscale_ex d0 d1 (d6 / 1)
  obtain ⟨p2, q2, s2, k2, n2⟩ := lscale_ex d2 d3 (d6 / 2)
  obtain ⟨p3, q3, s3, k3, n3⟩ := lscale_ex d4 d5 (d6 / 3)
  have M : ∀ {a : V3}, V3.BV 20 a → V3.BV 3900 a := fun h => h.mono (by decide)
  have l1 : fn_line_of [scl p1 q1] = _ := line_of_eq p1 q1 k1.1 (M k1.2.1) (M k1.2.2)
  have l2 : fn_line_of [scl p2 q2] = _ := line_of_eq p2 q2 k2.1 (M k2.2.1) (M k2.2.2)
  have l3 : fn_line_of [scl p3 q3] = _ := line_of_eq p3 q3 k3.1 (M k3.2.1) (M k3.2.2)
  have c1 := V3.cop_eq_tr (p := (V3.cr p1 q1).nm) (q := (V3.cr p2 q2).nm)
  have c2 := V3.cop_eq_tr (p := (V3.cr p2 q2).nm) (q := (V3.cr p3 q3).nm)
  by_cases hs : (V3.cr p1 q1).nm = (V3.cr p2 q2).nm ∧ (V3.cr p2 q2).nm = (V3.cr p3 q3).nm
  · obtain ⟨W, iW, x1, y1, x2, y2, x3, y3, pl, ck, m1, m2, m3⟩ := plain_ex d7
    exact ⟨x1, y1, x2, y2, x3, y3, lch_abs _ _ _ _ _ _ _ _ W k d0 d1 d2 d3 d4 d5 d6 d7 dr s1 s2 s3 l1 l2 l3 _ _ c1 c2 (.inl ⟨decide_eq_true hs.1, decide_eq_true hs.2, iW, pl⟩), ck, m1, m2, m3⟩
  · have hb : ¬(decide ((V3.cr p1 q1).nm = (V3.cr p2 q2).nm) = true ∧ decide ((V3.cr p2 q2).nm = (V3.cr p3 q3).nm) = true) := fun z => hs ⟨of_decide_eq_true z.1, of_decide_eq_true z.2⟩
    by_cases h : d7 % 4 = 3
    · obtain ⟨W, iW, x1, y1, x2, y2, x3, y3, pl, ck, m1, m2, m3⟩ := plain_ex (d7 / 4)
      exact ⟨x1, y1, x2, y2, x3, y3, lch_abs _ _ _ _ _ _ _ _ W k d0 d1 d2 d3 d4 d5 d6 d7 dr s1 s2 s3 l1 l2 l3 _ _ c1 c2 (.inr (.inl ⟨hb, h, iW, pl⟩)), ck, m1, m2, m3⟩
    · have ch : fn_chart [scl p1 q1, scl p2 q2, scl p3 q3] = .ok (chD p1 q1 p2 q2 p3 q3) := chart_eq p1 q1 p2 q2 p3 q3 k1.1 k2.1 k3.1 (M k1.2.1) (M k1.2.2) (M k2.2.1) (M k2.2.2) (M k3.2.1) (M k3.2.2) hs
      exact ⟨p1, q1, p2, q2, p3, q3, lch_abs _ _ _ _ _ _ _ _ .non k d0 d1 d2 d3 d4 d5 d6 d7 dr s1 s2 s3 l1 l2 l3 _ _ c1 c2 (.inr (.inr ⟨hb, h, ch⟩)), ⟨k1, k2, k3, hs⟩, n1, n2, n3⟩
theorem mem_rngC {c : Int} : ∀ {n : Nat} {i : Int} {d : D}, d ∈ rngC i c n → ∃ t : Int, 0 ≤ t ∧ t < n ∧ d = .int (i + t * c)
  | 0, _, _, h => nomatch h
  | n + 1, i, d, h => by
    rw [rngC_s] at h
    rcases List.mem_cons.mp h with h | h
    · exact ⟨0, by omega, by omega, by rw [h]; congr 1; omega⟩
    · obtain ⟨t, x, y, z⟩ := mem_rngC h
      refine ⟨t + 1, by omega, by omega, ?_⟩
      rw [z]
      congr 1
      rw [Int.add_mul]
      omega
theorem rg_ok : ∀ m : Fin 31, rgOk 1 (m.val : Int) 2 = true := by decide
theorem lplus_eq (p q : Rat) (hp : BR 300 p) (hq : BR 300 q) : fn__law_plus [fr p, fr q] = .ok (fr (p + q)) := by
  rw [fn__law_plus_eq]
  have l := llowest_eq (p.num * q.den + q.num * p.den) (p.den * q.den) (Int.mul_ne_zero (den_ne p) (den_ne q)) ((B.mul hp.2 hq.2).mono (by decide))
  rw [add_divI] at l
  obtain ⟨a1, a2⟩ := hp
  obtain ⟨b1, b2⟩ := hq
  have i0 : idxD (fr p) (.int 0) = some (.int p.num) := rfl
  have i1 : idxD (fr p) (.int 1) = some (.int p.den) := rfl
  have j0 : idxD (fr q) (.int 0) = some (.int q.num) := rfl
  have j1 : idxD (fr q) (.int 1) = some (.int q.den) := rfl
  generalize fr (p + q) = R at *
  generalize fr p = P at *
  generalize fr q = Q at *
  simp_arith [sh__law_plus, i0, i1, j0, j1, l]
theorem ltimes_eq (p q : Rat) (hp : BR 300 p) (hq : BR 300 q) : fn__law_times [fr p, fr q] = .ok (fr (p * q)) := by
  rw [fn__law_times_eq]
  have l := llowest_eq (p.num * q.num) (p.den * q.den) (Int.mul_ne_zero (den_ne p) (den_ne q)) ((B.mul hp.2 hq.2).mono (by decide))
  rw [mul_divI] at l
  obtain ⟨a1, a2⟩ := hp
  obtain ⟨b1, b2⟩ := hq
  have i0 : idxD (fr p) (.int 0) = some (.int p.num) := rfl
  have i1 : idxD (fr p) (.int 1) = some (.int p.den) := rfl
  have j0 : idxD (fr q) (.int 0) = some (.int q.num) := rfl
  have j1 : idxD (fr q) (.int 1) = some (.int q.den) := rfl
  generalize fr (p * q) = R at *
  generalize fr p = P at *
  generalize fr q = Q at *
  simp_arith [sh__law_times, i0, i1, j0, j1, l]
theorem lfraction_ex (a b : Int) : ∃ q : Rat, fn__law_fraction [.int a, .int b] = .ok (fr q) ∧ BR 4 q := by
  rw [fn__law_fraction_eq]
  have a0 := Int.emod_nonneg a (show (13 : Int) ≠ 0 by decide)
  have a1 := Int.emod_lt_of_pos a (show (0 : Int) < 13 by decide)
  have b0 := Int.emod_nonneg b (show (4 : Int) ≠ 0 by decide)
  have b1 := Int.emod_lt_of_pos b (show (0 : Int) < 4 by decide)
  generalize hx : a % 13 = x at *
  generalize hy : b % 4 = y at *
  have bx : B 4 (x - 6) := by unfold B; omega
  have by' : B 4 (1 + y) := by unfold B; omega
  have bx' : B 10 x := by unfold B; omega
  have l := llowest_eq (x - 6) (1 + y) (by omega) (by'.mono (by decide))
  refine ⟨_, ?_, BR.divInt (by omega) bx by'⟩
  simp_arith [sh__law_fraction, hx, hy, l]
/-! spots of a scale by fractions -/
def mkE (p q : V3) (e : Rat) : V3 := mk p q e.num e.den
def co (i : Bool) (v : V3) : Int := if i then v.y else v.x
def ci (i : Bool) : Int := if i then 1 else 0
theorem idx_co (i : Bool) (v : V3) : idxD v.tr (.int (ci i)) = some (.int (co i v)) := by cases i <;> rfl
theorem third_eq (p q : V3) (e : Rat) (hp : V3.BV 1000 p) (hq : V3.BV 1000 q) (he : BR 100 e) : fn_third_of [scl p q, fr e] = .ok (.int (mkE p q e).z) := by
  rw [fn_third_of_eq]
  obtain ⟨_, _, p3⟩ := hp
  obtain ⟨_, _, q3⟩ := hq
  obtain ⟨e1, e2⟩ := he
  have tg : ∀ δ, Tg.st (.tup [2, 3]) (scl p q) δ = stDs [2, 3] [p.tr, q.tr] δ := fun _ => rfl
  have i0 : idxD (fr e) (.int 0) = some (.int e.num) := rfl
  have i1 : idxD (fr e) (.int 1) = some (.int e.den) := rfl
  have j1 := V3.idx2 p
  have j2 := V3.idx2 q
  have ez : (mkE p q e).z = (e.den : Int) * p.z + e.num * q.z := rfl
  rw [ez]
  generalize scl p q = S at *
  generalize fr e = F at *
  generalize p.tr = P at *
  generalize q.tr = Q at *
  generalize (e.den : Int) = dn at *
  simp_arith [sh_third_of, tg, i0, i1, j1, j2]
theorem lthird_eq (p q : V3) (e : Rat) (hp : V3.BV 1000 p) (hq : V3.BV 1000 q) (he : BR 100 e) : fn__law_third [scl p q, fr e] = .ok (.int (mkE p q e).z) := by
  rw [fn__law_third_eq]
  obtain ⟨_, _, p3⟩ := hp
  obtain ⟨_, _, q3⟩ := hq
  obtain ⟨e1, e2⟩ := he
  have s0 : idxD (scl p q) (.int 0) = some p.tr := rfl
  have s1 : idxD (scl p q) (.int 1) = some q.tr := rfl
  have i0 : idxD (fr e) (.int 0) = some (.int e.num) := rfl
  have i1 : idxD (fr e) (.int 1) = some (.int e.den) := rfl
  have j1 := V3.idx2 p
  have j2 := V3.idx2 q
  have ez : (mkE p q e).z = (e.den : Int) * p.z + e.num * q.z := rfl
  rw [ez]
  generalize scl p q = S at *
  generalize fr e = F at *
  generalize p.tr = P at *
  generalize q.tr = Q at *
  generalize (e.den : Int) = dn at *
  simp_arith [sh__law_third, s0, s1, i0, i1, j1, j2]
theorem mkE_B {n m : Nat} {p q : V3} {e : Rat} (hp : V3.BV n p) (hq : V3.BV n q) (he : BR m e) : V3.BV (n + m + 1) (mkE p q e) := mk_B hp hq he.1 he.2
theorem frne (e : Rat) : ¬(e.num = 0 ∧ (e.den : Int) = 0) := fun h => den_ne e h.2
/-- where a mark stands -/
def pl (i : Bool) (v : V3) : Rat := Rat.divInt (co i v) v.z
theorem pl_sm (i : Bool) (g : Int) (v : V3) (hg : g ≠ 0) : pl i (V3.sm g v) = pl i v := by
  unfold pl
  have e : co i (V3.sm g v) = g * co i v := by cases i <;> rfl
  rw [e]
  show Rat.divInt (g * co i v) (g * v.z) = _
  exact Rat.divInt_mul_left hg
theorem pl_nm (i : Bool) (v : V3) (h : v ≠ .o3) : pl i v.nm = pl i v := by
  obtain ⟨g, g0, e⟩ := V3.nm_ex h
  conv => rhs; rw [e, pl_sm i g _ g0]
theorem nm_z (v : V3) (h : v ≠ .o3) (hz : v.z ≠ 0) : v.nm.z ≠ 0 := fun z => by
  obtain ⟨g, g0, e⟩ := V3.nm_ex h
  apply hz
  rw [e]
  show g * v.nm.z = 0
  rw [z, Int.mul_zero]
theorem co_B {n : Nat} {i : Bool} {v : V3} (h : V3.BV n v) : B n (co i v) := by cases i; exact h.1; exact h.2.1
theorem pl_B {n : Nat} (i : Bool) {v : V3} (h : V3.BV n v) (hz : v.z ≠ 0) : BR n (pl i v) := BR.divInt hz (co_B h) h.2.2
/-- a scale with its two ends -/
structure SE where
  p : V3
  q : V3
  a : Rat
  b : Rat
def SE.sc (s : SE) : D := scl s.p s.q
def SE.en (s : SE) : D := .tup [fr s.a, fr s.b]
def SE.M (s : SE) : V3 := mkE s.p s.q s.a
def SE.N (s : SE) : V3 := mkE s.p s.q s.b
structure SE.Ok (n : Nat) (s : SE) : Prop where
  c : V3.cr s.p s.q ≠ .o3
  bp : V3.BV n s.p
  bq : V3.BV n s.q
  ba : BR 40 s.a
  bb : BR 40 s.b
  z1 : s.M.z ≠ 0
  z2 : s.N.z ≠ 0
theorem SE.Ok.m0 {n : Nat} {s : SE} (h : SE.Ok n s) : s.M ≠ .o3 := mk_ne h.c (frne _)
theorem SE.Ok.n0 {n : Nat} {s : SE} (h : SE.Ok n s) : s.N ≠ .o3 := mk_ne h.c (frne _)
theorem SE.Ok.mB {n : Nat} {s : SE} (h : SE.Ok n s) : V3.BV (n + 41) s.M := mkE_B h.bp h.bq h.ba
theorem SE.Ok.nB {n : Nat} {s : SE} (h : SE.Ok n s) : V3.BV (n + 41) s.N := mkE_B h.bp h.bq h.bb
def pls (i : Bool) (s t u : SE) : List Rat := [pl i s.M, pl i s.N, pl i t.M, pl i t.N, pl i u.M, pl i u.N]
theorem look_step (C R S : D) (w : Int) (p q : V3) (a b : Rat) (ix : idxD C (.int w) = some (scl p q)) (hp : V3.BV 900 p) (hq : V3.BV 900 q) (ha : BR 40 a) (hb : BR 40 b) (h : 0 < (mkE p q a).z * (mkE p q b).z) :
    finK [2, 3, 4, 5] (lb1_look_at_ranges [.va C, .va R, .va (.int w), .va (.tup [fr a, fr b]), .no, .no, .no]) = some [.va C, .va R, .no, .no, .no, .no, .no] := by
  have t1 := third_eq p q a (hp.mono (by decide)) (hq.mono (by decide)) (ha.mono (by decide))
  have t2 := third_eq p q b (hp.mono (by decide)) (hq.mono (by decide)) (hb.mono (by decide))
  have b1 : B 1000 (mkE p q a).z := ((mkE_B hp hq ha).2.2).mono (by decide)
  have b2 : B 1000 (mkE p q b).z := ((mkE_B hp hq hb).2.2).mono (by decide)
  have sq : ∀ δ, seqK (.ok (.tup [fr a, fr b]) δ) = .ok [fr a, fr b] δ := fun _ => rfl
  generalize (mkE p q a).z = z1 at *
  generalize (mkE p q b).z = z2 at *
  have m : mulD (.int z1) (.int z2) = some (.int (z1 * z2)) := by simp_arith []
  have h' : ¬ z1 * z2 ≤ 0 := by omega
  generalize scl p q = Sc at *
  generalize D.tup [fr a, fr b] = En at *
  generalize fr a = A at *
  generalize fr b = Bb at *
  simp_arith [-mulD_i, lb1_look_at_ranges, ce1_look_at_ranges, sq, ix, t1, t2, m, h', finK_nx]
theorem look_ranges (s t u : SE) (hs : SE.Ok 100 s) (ht : SE.Ok 100 t) (hu : SE.Ok 100 u) (h1 : 0 < s.M.z * s.N.z) (h2 : 0 < t.M.z * t.N.z) (h3 : 0 < u.M.z * u.N.z) : fn_look_at_ranges [.tup [s.sc, t.sc, u.sc], .lst [s.en, t.en, u.en]] = .ok .non := by
  rw [fn_look_at_ranges_eq]
  have en : enuL [.lst [s.en, t.en, u.en]] = some [.tup [.int 0, s.en], .tup [.int 1, t.en], .tup [.int 2, u.en]] := rfl
  have lp : forF [2, 3, 4, 5] (Tg.tup [2, 3]).st lb1_look_at_ranges [.tup [.int 0, s.en], .tup [.int 1, t.en], .tup [.int 2, u.en]] [.va (.tup [s.sc, t.sc, u.sc]), .va (.lst [s.en, t.en, u.en]), .no, .no, .no, .no, .no] = .nx [.va (.tup [s.sc, t.sc, u.sc]), .va (.lst [s.en, t.en, u.en]), .no, .no, .no, .no, .no] := by
    rw [forF_cons_fin rfl (look_step _ _ .non 0 s.p s.q s.a s.b rfl (hs.bp.mono (by decide)) (hs.bq.mono (by decide)) hs.ba hs.bb h1), forF_cons_fin rfl (look_step _ _ .non 1 t.p t.q t.a t.b rfl (ht.bp.mono (by decide)) (ht.bq.mono (by decide)) ht.ba ht.bb h2), forF_cons_fin rfl (look_step _ _ .non 2 u.p u.q u.a u.b rfl (hu.bp.mono (by decide)) (hu.bq.mono (by decide)) hu.ba hu.bb h3)]
    rfl
  generalize D.tup [s.sc, t.sc, u.sc] = C at *
  generalize D.lst [s.en, t.en, u.en] = R at *
  simp_arith [sh_look_at_ranges, sFor_, kFor_ok, en, lp]
theorem place_in (C R E : D) (i : Bool) (ds : List D) (hl : ds.length < 100) (p q : V3) (e : Rat) (c : V3.cr p q ≠ .o3) (hp : V3.BV 1500 p) (hq : V3.BV 1500 q) (he : BR 40 e) (hz : (mkE p q e).z ≠ 0) :
    finK [6, 7] (lb2_places_of [.va C, .va R, .va (.int (ci i)), .ow (.lst ds), .va (scl p q), .va E, .va (fr e), .no]) = some [.va C, .va R, .va (.int (ci i)), .ow (.lst (ds ++ [fr (pl i (mkE p q e))])), .va (scl p q), .va E, .no, .no] := by
  have h0 : mkE p q e ≠ .o3 := mk_ne c (frne e)
  have m : fn_mark [scl p q, fr e] = .ok (mkE p q e).nm.tr := mark_eq p q e.num e.den c (frne e) (hp.mono (by decide)) (hq.mono (by decide)) (he.1.mono (by decide)) (he.2.mono (by decide))
  have mb : V3.BV 1541 (mkE p q e).nm := ((mkE_B hp hq he).nm).mono (by decide)
  have f := frac_eq (co i (mkE p q e).nm) (mkE p q e).nm.z (nm_z _ h0 hz) (mb.2.2.mono (by decide))
  have ep : Rat.divInt (co i (mkE p q e).nm) (mkE p q e).nm.z = pl i (mkE p q e) := pl_nm i _ h0
  rw [ep] at f
  have i1 := idx_co i (mkE p q e).nm
  have i2 := V3.idx2 (mkE p q e).nm
  have hl' : ds.length < 1000000 := by omega
  generalize co i (mkE p q e).nm = x at *
  generalize (mkE p q e).nm.z = z at *
  generalize (mkE p q e).nm.tr = T at *
  generalize fr (pl i (mkE p q e)) = F at *
  generalize scl p q = S at *
  generalize fr e = Fe at *
  simp_arith [lb2_places_of, m, i1, i2, f, hl', finK_nx]
theorem place_out (C R : D) (i : Bool) (ds : List D) (hl : ds.length < 50) (s : SE) (hs : SE.Ok 1400 s) :
    finK [4, 5, 6, 7] (lb1_places_of [.va C, .va R, .va (.int (ci i)), .ow (.lst ds), .va s.sc, .va s.en, .no, .no]) = some [.va C, .va R, .va (.int (ci i)), .ow (.lst (ds ++ [fr (pl i s.M), fr (pl i s.N)])), .no, .no, .no, .no] := by
  have lp : forF [6, 7] (Tg.var 6).st lb2_places_of [fr s.a, fr s.b] [.va C, .va R, .va (.int (ci i)), .ow (.lst ds), .va s.sc, .va s.en, .no, .no] = .nx [.va C, .va R, .va (.int (ci i)), .ow (.lst (ds ++ [fr (pl i s.M), fr (pl i s.N)])), .va s.sc, .va s.en, .no, .no] := by
    rw [forF_cons_fin rfl (place_in C R s.en i ds (by omega) s.p s.q s.a hs.c (hs.bp.mono (by decide)) (hs.bq.mono (by decide)) hs.ba hs.z1), forF_cons_fin rfl (place_in C R s.en i _ (by simp; omega) s.p s.q s.b hs.c (hs.bp.mono (by decide)) (hs.bq.mono (by decide)) hs.bb hs.z2)]
    show RS.nx _ = _
    simp only [List.append_assoc, List.cons_append, List.nil_append]
    rfl
  have sq : ∀ δ, seqK (.ok s.en δ) = .ok [fr s.a, fr s.b] δ := fun _ => rfl
  generalize s.sc = S at *
  generalize s.en = E at *
  generalize fr s.a = Fa at *
  generalize fr s.b = Fb at *
  simp_arith [lb1_places_of, sFor_, kFor_ok, sq, lp, finK_nx]
theorem places_ok (i : Bool) (s t u : SE) (hs : SE.Ok 1400 s) (ht : SE.Ok 1400 t) (hu : SE.Ok 1400 u) : fn_places_of [.tup [s.sc, t.sc, u.sc], .lst [s.en, t.en, u.en], .int (ci i)] = .ok (.lst ((pls i s t u).map fr)) := by
  rw [fn_places_of_eq]
  have z : zipL [.tup [s.sc, t.sc, u.sc], .lst [s.en, t.en, u.en]] = some [.tup [s.sc, s.en], .tup [t.sc, t.en], .tup [u.sc, u.en]] := rfl
  have lp : forF [4, 5, 6, 7] (Tg.tup [4, 5]).st lb1_places_of [.tup [s.sc, s.en], .tup [t.sc, t.en], .tup [u.sc, u.en]] [.va (.tup [s.sc, t.sc, u.sc]), .va (.lst [s.en, t.en, u.en]), .va (.int (ci i)), .ow (.lst []), .no, .no, .no, .no] = .nx [.va (.tup [s.sc, t.sc, u.sc]), .va (.lst [s.en, t.en, u.en]), .va (.int (ci i)), .ow (.lst ((pls i s t u).map fr)), .no, .no, .no, .no] := by
    rw [forF_cons_fin rfl (place_out _ _ i [] (by decide) s hs), forF_cons_fin rfl (place_out _ _ i _ (by show (2 : Nat) < 50; decide) t ht), forF_cons_fin rfl (place_out _ _ i _ (by show (4 : Nat) < 50; decide) u hu)]
    rfl
  generalize D.tup [s.sc, t.sc, u.sc] = C at *
  generalize D.lst [s.en, t.en, u.en] = R at *
  simp_arith [sh_places_of, sFor_, kFor_ok, z, lp]
/-! the least and the most -/
def mn (l x : Rat) : Rat := if x < l then x else l
def mx (m x : Rat) : Rat := if m < x then x else m
def lo6 (x : Rat) (xs : List Rat) : Rat := xs.foldl mn x
def hi6 (x : Rat) (xs : List Rat) : Rat := xs.foldl mx x
theorem lo6_mem (x : Rat) : ∀ xs : List Rat, ∀ y, lo6 y xs = y ∨ lo6 y xs ∈ xs
  | [], y => .inl rfl
  | z :: xs, y => by
    rcases lo6_mem x xs (mn y z) with h | h
    · have e : lo6 y (z :: xs) = mn y z := h
      rw [e]
      unfold mn
      split
      · exact .inr List.mem_cons_self
      · exact .inl rfl
    · exact .inr (List.mem_cons_of_mem _ h)
theorem hi6_mem (x : Rat) : ∀ xs : List Rat, ∀ y, hi6 y xs = y ∨ hi6 y xs ∈ xs
  | [], y => .inl rfl
  | z :: xs, y => by
    rcases hi6_mem x xs (mx y z) with h | h
    · have e : hi6 y (z :: xs) = mx y z := h
      rw [e]
      unfold mx
      split
      · exact .inr List.mem_cons_self
      · exact .inl rfl
    · exact .inr (List.mem_cons_of_mem _ h)
theorem str_step (P Z : D) (l m x : Rat) (bl : BR 600 l) (bm : BR 600 m) (bx : BR 600 x) : finK [4] (lb1_stretch_to [.va P, .va Z, .va (fr l), .va (fr m), .va (fr x), .no]) = some [.va P, .va Z, .va (fr (mn l x)), .va (fr (mx m x)), .no, .no] := by
  have u1 := under_eq x l (bx.mono (by decide)) (bl.mono (by decide))
  have u2 := under_eq m x (bm.mono (by decide)) (bx.mono (by decide))
  unfold mn mx
  by_cases h1 : x < l
  · rw [decide_eq_true h1] at u1
    rw [if_pos h1]
    by_cases h2 : m < x
    · rw [decide_eq_true h2] at u2
      rw [if_pos h2]
      clear h1 h2
      generalize fr x = X at *
      generalize fr l = L at *
      generalize fr m = M at *
      simp_arith [lb1_stretch_to, u1, u2, finK_nx]
    · rw [decide_eq_false h2] at u2
      rw [if_neg h2]
      clear h1 h2
      generalize fr x = X at *
      generalize fr l = L at *
      generalize fr m = M at *
      simp_arith [lb1_stretch_to, u1, u2, finK_nx]
  · rw [decide_eq_false h1] at u1
    rw [if_neg h1]
    by_cases h2 : m < x
    · rw [decide_eq_true h2] at u2
      rw [if_pos h2]
      clear h1 h2
      generalize fr x = X at *
      generalize fr l = L at *
      generalize fr m = M at *
      simp_arith [lb1_stretch_to, u1, u2, finK_nx]
    · rw [decide_eq_false h2] at u2
      rw [if_neg h2]
      clear h1 h2
      generalize fr x = X at *
      generalize fr l = L at *
      generalize fr m = M at *
      simp_arith [lb1_stretch_to, u1, u2, finK_nx]
theorem str_loop (P Z : D) : ∀ (xs : List Rat) (l m : Rat), (∀ x ∈ xs, BR 600 x) → BR 600 l → BR 600 m → forF [4] (Tg.var 4).st lb1_stretch_to (xs.map fr) [.va P, .va Z, .va (fr l), .va (fr m), .no, .no] = .nx [.va P, .va Z, .va (fr (lo6 l xs)), .va (fr (hi6 m xs)), .no, .no]
  | [], l, m, _, _, _ => rfl
  | x :: xs, l, m, hx, hl, hm => by
    have bx := hx x List.mem_cons_self
    have b1 : BR 600 (mn l x) := by unfold mn; split <;> assumption
    have b2 : BR 600 (mx m x) := by unfold mx; split <;> assumption
    rw [List.map_cons, forF_cons_fin rfl (str_step P Z l m x hl hm bx), str_loop P Z xs _ _ (fun y hy => hx y (List.mem_cons_of_mem _ hy)) b1 b2]
    rfl
/-- by how much, and what then -/
def byR (z : Int) (l m : Rat) : Rat := if l = m then 1 else (z : Rat) / (m - l)
def whR (z : Int) (l m : Rat) : Rat := 0 - byR z l m * l
theorem fr_int (z : Int) : fr (z : Rat) = .tup [.int z, .int 1] := by
  unfold fr
  rw [Rat.num_intCast, Rat.den_intCast]
  rfl
theorem BR_int {n : Nat} {z : Int} (h : B n z) (hn : 1 ≤ n) : BR n (z : Rat) := by
  unfold BR
  rw [Rat.num_intCast, Rat.den_intCast]
  exact ⟨h, (show B 1 ((1 : Nat) : Int) from by unfold B; decide).mono hn⟩
theorem sub_ne {l m : Rat} (h : l ≠ m) : m - l ≠ 0 := fun e => h (by grind)
theorem BR.div {n m : Nat} {p q : Rat} (h : BR n p) (k : BR m q) (q0 : q ≠ 0) : BR (n + m) (p / q) := by
  rw [← div_divI]
  have q1 : q.num ≠ 0 := fun e => q0 (Rat.num_eq_zero.mp e)
  exact BR.divInt (Int.mul_ne_zero (den_ne p) q1) (B.mul h.1 k.2) ((B.mul h.2 k.1))
theorem byR_B {z : Int} {l m : Rat} (hz : B 25 z) (hl : BR 61 l) (hm : BR 61 m) : BR 148 (byR z l m) := by
  unfold byR
  split
  · exact (BR_int (n := 1) (z := 1) (by unfold B; decide) (by decide)).mono (by decide)
  · next h => exact (BR.div (BR_int hz (by decide)) (hm.sub hl) (sub_ne h)).mono (by decide)
theorem whR_B {z : Int} {l m : Rat} (hz : B 25 z) (hl : BR 61 l) (hm : BR 61 m) : BR 215 (whR z l m) := by
  unfold whR
  have z0 : BR 1 (0 : Rat) := BR_int (n := 1) (z := 0) (by unfold B; decide) (by decide)
  exact (z0.sub ((byR_B hz hl hm).mul hl)).mono (by decide)
theorem stretch_ok (x : Rat) (xs : List Rat) (z : Int) (hz : B 25 z) (hx : ∀ y ∈ x :: xs, BR 61 y) (hlen : xs.length ≤ 100) : fn_stretch_to [.lst ((x :: xs).map fr), .int z] = .ok (.tup [fr (byR z (lo6 x (x :: xs)) (hi6 x (x :: xs))), fr (whR z (lo6 x (x :: xs)) (hi6 x (x :: xs)))]) := by
  rw [fn_stretch_to_eq]
  have bl : BR 61 (lo6 x (x :: xs)) := by rcases lo6_mem x (x :: xs) x with h | h; rw [h]; exact hx x List.mem_cons_self; exact hx _ h
  have bm : BR 61 (hi6 x (x :: xs)) := by rcases hi6_mem x (x :: xs) x with h | h; rw [h]; exact hx x List.mem_cons_self; exact hx _ h
  have lp := fun P Z => str_loop P Z (x :: xs) x x (fun y hy => (hx y hy).mono (by decide)) ((hx x List.mem_cons_self).mono (by decide)) ((hx x List.mem_cons_self).mono (by decide))
  generalize lo6 x (x :: xs) = l at *
  generalize hi6 x (x :: xs) = m at *
  have i0 : idxD (.lst ((x :: xs).map fr)) (.int 0) = some (fr x) := by rw [List.map_cons, idx_l, atI_0]
  have sq : ∀ δ, seqK (.ok (.lst ((x :: xs).map fr)) δ) = .ok ((x :: xs).map fr) δ := fun _ => rfl
  have ne := cop_ne_fr (p := l) (q := m)
  have z0 : BR 1 (0 : Rat) := BR_int (n := 1) (z := 0) (by unfold B; decide) (by decide)
  have bb := byR_B hz bl bm
  have tm := times_eq (byR z l m) l (bb.mono (by decide)) (bl.mono (by decide))
  have mi := minus_eq 0 (byR z l m * l) (z0.mono (by decide)) ((bb.mul bl).mono (by decide))
  have f0 : (.tup [.int 0, .int 1] : D) = fr 0 := rfl
  have mi : fn_minus [.tup [.int 0, .int 1], fr (byR z l m * l)] = .ok (fr (whR z l m)) := mi
  generalize (x :: xs).map fr = XS at *
  generalize D.lst XS = P at *
  by_cases h : l = m
  · have eb : byR z l m = 1 := if_pos h
    rw [eb] at tm mi ⊢
    rw [decide_eq_true h] at ne
    have f1 : fr 1 = .tup [.int 1, .int 1] := rfl
    rw [f1] at tm ⊢
    clear f0 h eb hx bb z0 bl bm
    generalize fr (1 * l) = T at *
    generalize fr (whR z l m) = W at *
    have lp := lp P (.int z)
    generalize fr x = X at *
    generalize fr l = L at *
    generalize fr m = M at *
    simp_arith [-cop_ne_tt, sh_stretch_to, sFor_, kFor_ok, i0, sq, lp, ne, tm, mi]
  · have eb : byR z l m = (z : Rat) / (m - l) := if_neg h
    rw [decide_eq_false h] at ne
    have m1 := minus_eq m l (bm.mono (by decide)) (bl.mono (by decide))
    have ov := over_eq (z : Rat) (m - l) (sub_ne h) ((BR_int hz (by decide)).mono (by decide)) ((bm.sub bl).mono (by decide))
    rw [fr_int, ← eb] at ov
    clear f0 h eb hx bb z0 bl bm
    generalize fr (byR z l m * l) = T at *
    generalize fr (byR z l m) = By at *
    generalize fr (whR z l m) = W at *
    generalize fr (m - l) = ML at *
    have lp := lp P (.int z)
    generalize fr x = X at *
    generalize fr l = L at *
    generalize fr m = M at *
    simp_arith [-cop_ne_tt, sh_stretch_to, sFor_, kFor_ok, i0, sq, lp, ne, m1, ov, tm, mi]
/-! the map -/
def fitM (bx cx bY cY : Rat) : M3 :=
  ⟨⟨bx.num * ((cx.den : Int) * bY.den * cY.den), 0, cx.num * ((bx.den : Int) * bY.den * cY.den)⟩,
   ⟨0, bY.num * ((bx.den : Int) * cx.den * cY.den), cY.num * ((bx.den : Int) * cx.den * bY.den)⟩,
   ⟨0, 0, (bx.den : Int) * cx.den * bY.den * cY.den⟩⟩
theorem dpos (q : Rat) : 0 < (q.den : Int) := den_pos' q
theorem fitM_W (bx cx bY cY : Rat) : 0 < (fitM bx cx bY cY).c.z := Int.mul_pos (Int.mul_pos (Int.mul_pos (dpos bx) (dpos cx)) (dpos bY)) (dpos cY)
theorem num_ne {q : Rat} (h : q ≠ 0) : q.num ≠ 0 := fun e => h (Rat.num_eq_zero.mp e)
theorem fitM_det {bx cx bY cY : Rat} (h1 : bx ≠ 0) (h2 : bY ≠ 0) : (fitM bx cx bY cY).det ≠ 0 := by
  have e : (fitM bx cx bY cY).det = (fitM bx cx bY cY).a.x * ((fitM bx cx bY cY).b.y * (fitM bx cx bY cY).c.z) := by
    unfold M3.det fitM V3.dt V3.cr; dsimp only; grind
  rw [e]
  have W := fitM_W bx cx bY cY
  refine Int.mul_ne_zero (Int.mul_ne_zero (num_ne h1) ?_) (Int.mul_ne_zero (Int.mul_ne_zero (num_ne h2) ?_) (by omega))
  · have := Int.mul_pos (Int.mul_pos (dpos cx) (dpos bY)) (dpos cY); omega
  · have := Int.mul_pos (Int.mul_pos (dpos bx) (dpos cx)) (dpos cY); omega
theorem fitM_B {bx cx bY cY : Rat} (h1 : BR 148 bx) (h2 : BR 215 cx) (h3 : BR 148 bY) (h4 : BR 215 cY) : M3.BM 800 (fitM bx cx bY cY) := by
  have o : B 800 0 := (B.lit 0).mono (by decide)
  exact ⟨⟨(B.mul h1.1 (B.mul (B.mul h2.2 h3.2) h4.2)).mono (by decide), o, (B.mul h2.1 (B.mul (B.mul h1.2 h3.2) h4.2)).mono (by decide)⟩, ⟨o, (B.mul h3.1 (B.mul (B.mul h1.2 h2.2) h4.2)).mono (by decide), (B.mul h4.1 (B.mul (B.mul h1.2 h2.2) h3.2)).mono (by decide)⟩, o, o, (B.mul (B.mul (B.mul h1.2 h2.2) h3.2) h4.2).mono (by decide)⟩
theorem ediv4 (a b c d : Int) (ha : 0 < a) (hb : 0 < b) (hc : 0 < c) (hd : 0 < d) : a * b * c * d / a = b * c * d ∧ a * b * c * d / b = a * c * d ∧ a * b * c * d / c = a * b * d ∧ a * b * c * d / d = a * b * c := by
  refine ⟨?_, ?_, ?_, ?_⟩
  · exact Int.ediv_eq_of_eq_mul_right (by omega) (by grind)
  · exact Int.ediv_eq_of_eq_mul_right (by omega) (by grind)
  · exact Int.ediv_eq_of_eq_mul_right (by omega) (by grind)
  · exact Int.ediv_eq_of_eq_mul_right (by omega) (by grind)
theorem fit_abs (C R P0 P1 : D) (wd ht : Int) (bx cx bY cY : Rat) (lk : fn_look_at_ranges [C, R] = .ok .non) (pl0 : fn_places_of [C, R, .int 0] = .ok P0) (pl1 : fn_places_of [C, R, .int 1] = .ok P1) (s0 : fn_stretch_to [P0, .int wd] = .ok (.tup [fr bx, fr cx])) (s1 : fn_stretch_to [P1, .int ht] = .ok (.tup [fr bY, fr cY])) (h1 : BR 148 bx) (h2 : BR 215 cx) (h3 : BR 148 bY) (h4 : BR 215 cY) (n1 : bx ≠ 0) (n2 : bY ≠ 0) :
    fn_fit [C, R, .int wd, .int ht] = .ok (fitM bx cx bY cY).nm.mt := by
  rw [fn_fit_eq]
  have pm := plane_map_l (fitM bx cx bY cY) (fitM_det n1 n2) ((fitM_B h1 h2 h3 h4).mono (by decide))
  have em : (fitM bx cx bY cY).ml = .lst [.int (bx.num * ((cx.den : Int) * bY.den * cY.den)), .int 0, .int (cx.num * ((bx.den : Int) * bY.den * cY.den)), .int 0, .int (bY.num * ((bx.den : Int) * cx.den * cY.den)), .int (cY.num * ((bx.den : Int) * cx.den * bY.den)), .int 0, .int 0, .int ((bx.den : Int) * cx.den * bY.den * cY.den)] := rfl
  rw [em] at pm
  obtain ⟨e1, e2, e3, e4⟩ := ediv4 bx.den cx.den bY.den cY.den (dpos bx) (dpos cx) (dpos bY) (dpos cY)
  obtain ⟨u1, v1⟩ := h1
  obtain ⟨u2, v2⟩ := h2
  obtain ⟨u3, v3⟩ := h3
  obtain ⟨u4, v4⟩ := h4
  have d1 := dpos bx; have d2 := dpos cx; have d3 := dpos bY; have d4 := dpos cY
  have q0 : ∀ a b : Rat, idxD (.tup [fr a, fr b]) (.int 0) = some (fr a) := fun _ _ => rfl
  have q1 : ∀ a b : Rat, idxD (.tup [fr a, fr b]) (.int 1) = some (fr b) := fun _ _ => rfl
  have q00 := q0 bx cx; have q01 := q1 bx cx; have q10 := q0 bY cY; have q11 := q1 bY cY
  have f0 : ∀ a : Rat, idxD (fr a) (.int 0) = some (.int a.num) := fun _ => rfl
  have f1 : ∀ a : Rat, idxD (fr a) (.int 1) = some (.int a.den) := fun _ => rfl
  have fa0 := f0 bx; have fa1 := f1 bx; have fb0 := f0 cx; have fb1 := f1 cx; have fc0 := f0 bY; have fc1 := f1 bY; have fd0 := f0 cY; have fd1 := f1 cY
  have sq : ∀ (a b : Rat) δ, seqK (.ok (.tup [fr a, fr b]) δ) = .ok [fr a, fr b] δ := fun _ _ _ => rfl
  have sq0 := sq bx cx; have sq1 := sq bY cY
  clear q0 q1 f0 f1 sq em n1 n2
  generalize (fitM bx cx bY cY).nm.mt = Z at *
  generalize D.tup [fr bx, fr cx] = T0 at *
  generalize D.tup [fr bY, fr cY] = T1 at *
  generalize fr bx = F1 at *
  generalize fr cx = F2 at *
  generalize fr bY = F3 at *
  generalize fr cY = F4 at *
  generalize (bx.den : Int) = x1 at *
  generalize (cx.den : Int) = x2 at *
  generalize (bY.den : Int) = x3 at *
  generalize (cY.den : Int) = x4 at *
  have w1 : mulD (.int x1) (.int x2) = some (.int (x1 * x2)) := by simp_arith []
  have b12 : B 363 (x1 * x2) := B.mul v1 v2
  have w2 : mulD (.int (x1 * x2)) (.int x3) = some (.int (x1 * x2 * x3)) := by generalize x1 * x2 = t at *; simp_arith []
  have b123 : B 511 (x1 * x2 * x3) := B.mul b12 v3
  have w3 : mulD (.int (x1 * x2 * x3)) (.int x4) = some (.int (x1 * x2 * x3 * x4)) := by generalize x1 * x2 * x3 = t at *; simp_arith []
  have dv : ∀ (y : Int), 0 < y → B 8999 y → fdivD (.int (x1 * x2 * x3 * x4)) (.int y) = some (.int (x1 * x2 * x3 * x4 / y)) := fun y hy hb => fdivD_p (divOk_B (by omega) hb) (by omega)
  have g1 := dv x1 d1 (v1.mono (by decide))
  have g2 := dv x2 d2 (v2.mono (by decide))
  have g3 := dv x3 d3 (v3.mono (by decide))
  have g4 := dv x4 d4 (v4.mono (by decide))
  rw [e1] at g1
  rw [e2] at g2
  rw [e3] at g3
  rw [e4] at g4
  have r1 : B 800 (x2 * x3 * x4) := (B.mul (B.mul v2 v3) v4).mono (by decide)
  have r2 : B 800 (x1 * x3 * x4) := (B.mul (B.mul v1 v3) v4).mono (by decide)
  have r3 : B 800 (x1 * x2 * x4) := (B.mul (B.mul v1 v2) v4).mono (by decide)
  have r4 : B 800 (x1 * x2 * x3) := b123.mono (by decide)
  have m1 : mulD (.int bx.num) (.int (x2 * x3 * x4)) = some (.int (bx.num * (x2 * x3 * x4))) := by generalize x2 * x3 * x4 = t at *; simp_arith []
  have m2 : mulD (.int cx.num) (.int (x1 * x3 * x4)) = some (.int (cx.num * (x1 * x3 * x4))) := by generalize x1 * x3 * x4 = t at *; simp_arith []
  have m3 : mulD (.int bY.num) (.int (x1 * x2 * x4)) = some (.int (bY.num * (x1 * x2 * x4))) := by generalize x1 * x2 * x4 = t at *; simp_arith []
  have m4 : mulD (.int cY.num) (.int (x1 * x2 * x3)) = some (.int (cY.num * (x1 * x2 * x3))) := by generalize x1 * x2 * x3 = t at *; simp_arith []
  generalize bx.num * (x2 * x3 * x4) = n1 at *
  generalize cx.num * (x1 * x3 * x4) = n2 at *
  generalize bY.num * (x1 * x2 * x4) = n3 at *
  generalize cY.num * (x1 * x2 * x3) = n4 at *
  generalize hW : x1 * x2 * x3 * x4 = W at *
  simp_arith [-mulD_i, -fdivD_p, sh_fit, ce1_fit, ce2_fit, lk, pl0, pl1, s0, s1, q00, q01, q10, q11, fa0, fa1, fb0, fb1, fc0, fc1, fd0, fd1, sq0, sq1, w1, w2, w3, g1, g2, g3, g4, m1, m2, m3, m4, pm]
/-! where the led marks stand -/
theorem pl_fit (i : Bool) (bx cx bY cY : Rat) (v : V3) (hz : v.z ≠ 0) : pl i ((fitM bx cx bY cY).ld v) = (if i then bY else bx) * pl i v + (if i then cY else cx) ∧ ((fitM bx cx bY cY).ld v).z ≠ 0 := by
  have W := fitM_W bx cx bY cY
  have ez : ((fitM bx cx bY cY).ld v).z = (bx.den : Int) * cx.den * bY.den * cY.den * v.z := by
    unfold M3.ld fitM V3.dt; dsimp only; grind
  have W' : (bx.den : Int) * cx.den * bY.den * cY.den ≠ 0 := by
    have : (fitM bx cx bY cY).c.z = (bx.den : Int) * cx.den * bY.den * cY.den := rfl
    omega
  refine ⟨?_, by rw [ez]; exact Int.mul_ne_zero W' hz⟩
  have hb := den_ne bx; have hc := den_ne cx; have hd := den_ne bY; have he := den_ne cY
  unfold pl
  rw [ez]
  cases i
  · have ex : co false ((fitM bx cx bY cY).ld v) = bx.num * ((cx.den : Int) * bY.den * cY.den) * v.x + cx.num * ((bx.den : Int) * bY.den * cY.den) * v.z := by
      show V3.dt _ _ = _
      unfold fitM V3.dt; dsimp only; grind
    rw [ex]
    show Rat.divInt _ _ = bx * Rat.divInt v.x v.z + cx
    have k : bx * Rat.divInt v.x v.z + cx = Rat.divInt (bx.num * v.x * cx.den + cx.num * (bx.den * v.z)) (bx.den * v.z * cx.den) := by
      conv => lhs; rw [← Rat.num_divInt_den bx, ← Rat.num_divInt_den cx, Rat.divInt_mul_divInt, Rat.divInt_add_divInt _ _ (Int.mul_ne_zero hb hz) hc]
      
    rw [k]
    exact (Rat.divInt_eq_divInt_iff (Int.mul_ne_zero W' hz) (Int.mul_ne_zero (Int.mul_ne_zero hb hz) hc)).mpr (by grind)
  · have ex : co true ((fitM bx cx bY cY).ld v) = bY.num * ((bx.den : Int) * cx.den * cY.den) * v.y + cY.num * ((bx.den : Int) * cx.den * bY.den) * v.z := by
      show V3.dt _ _ = _
      unfold fitM V3.dt; dsimp only; grind
    rw [ex]
    show Rat.divInt _ _ = bY * Rat.divInt v.y v.z + cY
    have k : bY * Rat.divInt v.y v.z + cY = Rat.divInt (bY.num * v.y * cY.den + cY.num * (bY.den * v.z)) (bY.den * v.z * cY.den) := by
      conv => lhs; rw [← Rat.num_divInt_den bY, ← Rat.num_divInt_den cY, Rat.divInt_mul_divInt, Rat.divInt_add_divInt _ _ (Int.mul_ne_zero hd hz) he]
    rw [k]
    exact (Rat.divInt_eq_divInt_iff (Int.mul_ne_zero W' hz) (Int.mul_ne_zero (Int.mul_ne_zero hd hz) he)).mpr (by grind)
/-- a scale led -/
def SE.led (m : M3) (s : SE) : SE := ⟨ls1 m s.p s.q, ls2 m s.p s.q, s.a, s.b⟩
theorem led_M {m : M3} (h : m.det ≠ 0) {p q : V3} (c : V3.cr p q ≠ .o3) (e : Rat) : ∃ g : Int, g ≠ 0 ∧ m.ld (mkE p q e) = V3.sm g (mkE (ls1 m p q) (ls2 m p q) e) := by
  obtain ⟨g, g0, e1, e2, _⟩ := ls_ex h c
  refine ⟨g, g0, ?_⟩
  unfold mkE
  rw [ld_mk, e1, e2, mk_sm]
theorem pl_led {m : M3} (h : m.det ≠ 0) {p q : V3} (c : V3.cr p q ≠ .o3) (e : Rat) (i : Bool) : pl i (mkE (ls1 m p q) (ls2 m p q) e) = pl i (m.ld (mkE p q e)) ∧ ((m.ld (mkE p q e)).z ≠ 0 → (mkE (ls1 m p q) (ls2 m p q) e).z ≠ 0) := by
  obtain ⟨g, g0, eg⟩ := led_M h c e
  refine ⟨by rw [eg, pl_sm i g _ g0], fun hz z => hz ?_⟩
  rw [eg]
  show g * _ = 0
  rw [z, Int.mul_zero]
theorem nmM {m : M3} (h : m.det ≠ 0) (v : V3) (hv : v ≠ .o3) (i : Bool) : pl i (m.nm.ld v) = pl i (m.ld v) ∧ ((m.ld v).z ≠ 0 → (m.nm.ld v).z ≠ 0) := by
  obtain ⟨g, g0, e⟩ := M3.nm_ex h
  have k : m.ld v = V3.sm g (m.nm.ld v) := by conv => lhs; rw [e, M3.sm_ld]
  refine ⟨by rw [k, pl_sm i g _ g0], fun hz z => hz ?_⟩
  rw [k]
  show g * _ = 0
  rw [z, Int.mul_zero]
/-! by the law -/
theorem BR.neg {n : Nat} {q : Rat} (h : BR n q) : BR n (-q) := by
  unfold BR
  rw [Rat.neg_num, Rat.neg_den]
  exact ⟨h.1.neg, h.2⟩
theorem SE.led_ok {m : M3} (h : m.det ≠ 0) (hm : M3.BM 800 m) {s : SE} (hs : SE.Ok 30 s) (z1 : (m.ld s.M).z ≠ 0) (z2 : (m.ld s.N).z ≠ 0) : SE.Ok 1400 (s.led m) :=
  ⟨n6_cr (cr_led h hs.c), (ls_B hm hs.bp hs.bq).1.mono (by decide), (ls_B hm hs.bp hs.bq).2.mono (by decide), hs.ba, hs.bb, (pl_led h hs.c s.a false).2 z1, (pl_led h hs.c s.b false).2 z2⟩
theorem SE.Ok.mono {n m : Nat} {s : SE} (h : SE.Ok n s) (l : n ≤ m) : SE.Ok m s := ⟨h.c, h.bp.mono l, h.bq.mono l, h.ba, h.bb, h.z1, h.z2⟩
theorem byR_ne {z : Int} {l m : Rat} (hz : z ≠ 0) : byR z l m ≠ 0 := by
  unfold byR
  split
  · decide
  · next h =>
    intro e
    have c := Rat.div_mul_cancel (a := (z : Rat)) (sub_ne h)
    rw [e] at c
    have k : (z : Rat) = 0 := by grind
    have := congrArg Rat.num k
    rw [Rat.num_intCast] at this
    exact hz this
theorem fitted_eq (C Rg H T : D) (wd ht : Int) (ft : fn_fit [C, Rg, .int wd, .int ht] = .ok H) (lc : fn_led_chart [H, C] = .ok T) : fn_fitted [C, Rg, .int wd, .int ht] = .ok T := by
  rw [fn_fitted_eq]
  simp_arith [sh_fitted, ft, lc]
theorem shp_fr {n : Nat} (q : Rat) : shp (n + 1) (fr q) = true := by
  unfold fr
  rw [shp_t, shps_c, shps_c, shps_n, shp_i, shp_i]
  rfl
theorem shp_chD (p1 q1 p2 q2 p3 q3 : V3) : shp 64 (chD p1 q1 p2 q2 p3 q3) = true := by
  unfold chD scl
  simp only [shp_t, shps_c, shps_n, V3.shp_tr, Bool.and_self]
theorem which_step (C R : D) (j : Int) (p q : V3) (a b : Rat) (hC : idxD C (.int j) = some (scl p q)) (hR : idxD R (.int j) = some (.tup [fr a, fr b])) (hp : V3.BV 900 p) (hq : V3.BV 900 q) (ha : BR 40 a) (hb : BR 40 b) :
    (0 < (mkE p q a).z * (mkE p q b).z ∧ finK [2, 3, 4] (lb1__law_which [.va C, .va R, .va (.int j), .no, .no, .no]) = some [.va C, .va R, .no, .no, .no, .no]) ∨ (∃ δ2, lb1__law_which [.va C, .va R, .va (.int j), .no, .no, .no] = .rt (.int j) δ2) := by
  have t1 := lthird_eq p q a (hp.mono (by decide)) (hq.mono (by decide)) (ha.mono (by decide))
  have t2 := lthird_eq p q b (hp.mono (by decide)) (hq.mono (by decide)) (hb.mono (by decide))
  have sq : ∀ δ, seqK (.ok (.tup [fr a, fr b]) δ) = .ok [fr a, fr b] δ := fun _ => rfl
  generalize (mkE p q a).z = z1 at *
  generalize (mkE p q b).z = z2 at *
  generalize D.tup [fr a, fr b] = En at *
  generalize scl p q = S at *
  generalize fr a = A at *
  generalize fr b = Bb at *
  by_cases p1 : 0 < z1
  · by_cases p2 : 0 < z2
    · refine .inl ⟨Int.mul_pos p1 p2, ?_⟩
      simp_arith [lb1__law_which, ce1__law_which, hC, hR, sq, t1, t2, p1, p2, finK_nx]
    · have n1 : ¬ z1 < 0 := by omega
      refine .inr ?_
      simp_arith [lb1__law_which, ce1__law_which, hC, hR, sq, t1, t2, p1, p2, n1]
  · by_cases n1 : z1 < 0
    · by_cases n2 : z2 < 0
      · refine .inl ⟨Int.mul_pos_of_neg_of_neg n1 n2, ?_⟩
        simp_arith [lb1__law_which, ce1__law_which, hC, hR, sq, t1, t2, p1, n1, n2, finK_nx]
      · refine .inr ?_
        simp_arith [lb1__law_which, ce1__law_which, hC, hR, sq, t1, t2, p1, n1, n2]
    · refine .inr ?_
      simp_arith [lb1__law_which, ce1__law_which, hC, hR, sq, t1, t2, p1, n1]
theorem forF_cons_rt {ws : List Nat} {g : D → En → Option En} {b : SDen} {d x : D} {ds : List D} {δ δ1 δ2 : En} (e1 : g d δ = some δ1) (e2 : b δ1 = .rt x δ2) : forF ws g b (d :: ds) δ = .rt x δ2 := by
  rw [forF_c, e1]
  show loopK ws (b δ1) (forF ws g b ds) = _
  rw [e2]
  rfl
theorem which_d (s t u : SE) (bs : V3.BV 900 s.p ∧ V3.BV 900 s.q) (bt : V3.BV 900 t.p ∧ V3.BV 900 t.q) (bu : V3.BV 900 u.p ∧ V3.BV 900 u.q) (es : BR 40 s.a ∧ BR 40 s.b) (et : BR 40 t.a ∧ BR 40 t.b) (eu : BR 40 u.a ∧ BR 40 u.b) :
    (fn__law_which [.tup [s.sc, t.sc, u.sc], .lst [s.en, t.en, u.en]] = .ok .non ∧ 0 < s.M.z * s.N.z ∧ 0 < t.M.z * t.N.z ∧ 0 < u.M.z * u.N.z) ∨ ∃ j : Int, fn__law_which [.tup [s.sc, t.sc, u.sc], .lst [s.en, t.en, u.en]] = .ok (.int j) := by
  rw [fn__law_which_eq]
  have k1 := which_step (.tup [s.sc, t.sc, u.sc]) (.lst [s.en, t.en, u.en]) 0 s.p s.q s.a s.b rfl rfl bs.1 bs.2 es.1 es.2
  have k2 := which_step (.tup [s.sc, t.sc, u.sc]) (.lst [s.en, t.en, u.en]) 1 t.p t.q t.a t.b rfl rfl bt.1 bt.2 et.1 et.2
  have k3 := which_step (.tup [s.sc, t.sc, u.sc]) (.lst [s.en, t.en, u.en]) 2 u.p u.q u.a u.b rfl rfl bu.1 bu.2 eu.1 eu.2
  have fin : ∀ (r : RS), forF [2, 3, 4] (Tg.var 2).st lb1__law_which [.int 0, .int 1, .int 2] [.va (.tup [s.sc, t.sc, u.sc]), .va (.lst [s.en, t.en, u.en]), .no, .no, .no, .no] = r → (∀ d δ, r = .rt d δ → endD (sh__law_which [.va (.tup [s.sc, t.sc, u.sc]), .va (.lst [s.en, t.en, u.en]), .no, .no, .no, .no]) = .ok d) ∧ (r = .nx [.va (.tup [s.sc, t.sc, u.sc]), .va (.lst [s.en, t.en, u.en]), .no, .no, .no, .no] → endD (sh__law_which [.va (.tup [s.sc, t.sc, u.sc]), .va (.lst [s.en, t.en, u.en]), .no, .no, .no, .no]) = .ok .non) := fun r lp => by
    clear k1 k2 k3
    generalize D.tup [s.sc, t.sc, u.sc] = C at *
    generalize D.lst [s.en, t.en, u.en] = R at *
    refine ⟨fun d δ h => ?_, fun h => ?_⟩
    · rw [h] at lp
      simp_arith [sh__law_which, sFor_, kFor_ok, rngK_1, rngD_0, rngD_s, lp]
    · rw [h] at lp
      simp_arith [sh__law_which, sFor_, kFor_ok, rngK_1, rngD_0, rngD_s, lp]
  rcases k1 with ⟨h1, k1⟩ | ⟨δ, k1⟩
  · rcases k2 with ⟨h2, k2⟩ | ⟨δ, k2⟩
    · rcases k3 with ⟨h3, k3⟩ | ⟨δ, k3⟩
      · exact .inl ⟨(fin _ (by rw [forF_cons_fin rfl k1, forF_cons_fin rfl k2, forF_cons_fin rfl k3]; rfl)).2 rfl, h1, h2, h3⟩
      · exact .inr ⟨2, (fin _ (by rw [forF_cons_fin rfl k1, forF_cons_fin rfl k2]; exact forF_cons_rt rfl k3)).1 _ _ rfl⟩
    · exact .inr ⟨1, (fin _ (by rw [forF_cons_fin rfl k1]; exact forF_cons_rt rfl k2)).1 _ _ rfl⟩
  · exact .inr ⟨0, (fin _ (forF_cons_rt rfl k1)).1 _ _ rfl⟩
theorem rstep (L X : D) (s1 : Sl) (j x y d6 c t : Int) (ds : List D) (ix : idxD X (.int (2 * j)) = some (.int x)) (iy : idxD X (.int (2 * j + 1)) = some (.int y)) (i6 : idxD X (.int 6) = some (.int d6))
    (ic : idxD (.lst [.int 0, .int 0, .int 200, .int (-1000000)]) (.int (d6 % 4)) = some (.int c)) (it : idxD (.lst [.int 1, .int 1, .int 100]) (.int (d6 / 4 % 3)) = some (.int t)) (Q A U B' : D)
    (f : fn__law_fraction [.int x, .int (x / 13)] = .ok Q) (p : fn__law_plus [Q, .tup [.int c, .int 1]] = .ok A) (lw : fn__law_lowest [.int ((1 + y % 20) * t), .int (1 + y / 20 % 4)] = .ok U) (p2 : fn__law_plus [A, U] = .ok B') (bj : B 10 j) (bx : B 10 x) (b_y : B 10 y) (b6 : B 10 d6) (bt : B 10 t) (hl : ds.length < 1000000) :
    finK [4, 5, 6] (lb1__law_ranges [.va L, s1, .va X, .ow (.lst ds), .va (.int j), .no, .no]) = some [.va L, s1, .va X, .ow (.lst (ds ++ [.tup [A, B']])), .no, .no, .no] := by
  have p6 : powD (.int 10) (.int 6) = some (.int (10 ^ 6)) := powD_i (by decide)
  simp_arith [lb1__law_ranges, p6, ix, iy, i6, ic, it, f, p, lw, p2, appK_ow hl, finK_nx]
theorem pick4 (d : Int) : ∃ c : Int, idxD (.lst [.int 0, .int 0, .int 200, .int (-1000000)]) (.int (d % 4)) = some (.int c) ∧ B 21 c := by
  have h : d % 4 = 0 ∨ d % 4 = 1 ∨ d % 4 = 2 ∨ d % 4 = 3 := by omega
  rcases h with h | h | h | h <;> rw [h]
  · exact ⟨_, rfl, by unfold B; decide⟩
  · exact ⟨_, rfl, by unfold B; decide⟩
  · exact ⟨_, rfl, by unfold B; decide⟩
  · exact ⟨_, rfl, by unfold B; decide⟩
theorem pick3 (d : Int) : ∃ c : Int, idxD (.lst [.int 1, .int 1, .int 100]) (.int (d % 3)) = some (.int c) ∧ B 7 c := by
  have h : d % 3 = 0 ∨ d % 3 = 1 ∨ d % 3 = 2 := by omega
  rcases h with h | h | h <;> rw [h]
  · exact ⟨_, rfl, by unfold B; decide⟩
  · exact ⟨_, rfl, by unfold B; decide⟩
  · exact ⟨_, rfl, by unfold B; decide⟩
theorem rstep_ex (L X : D) (s1 : Sl) (j x y d6 : Int) (ix : idxD X (.int (2 * j)) = some (.int x)) (iy : idxD X (.int (2 * j + 1)) = some (.int y)) (i6 : idxD X (.int 6) = some (.int d6)) (bj : B 10 j) (bx : B 10 x) (b_y : B 10 y) (b6 : B 10 d6) :
    ∃ a b : Rat, BR 40 a ∧ BR 40 b ∧ ∀ ds : List D, ds.length < 1000000 → finK [4, 5, 6] (lb1__law_ranges [.va L, s1, .va X, .ow (.lst ds), .va (.int j), .no, .no]) = some [.va L, s1, .va X, .ow (.lst (ds ++ [.tup [fr a, fr b]])), .no, .no, .no] := by
  obtain ⟨q, f, bq⟩ := lfraction_ex x (x / 13)
  obtain ⟨c, ic, bc⟩ := pick4 d6
  obtain ⟨t, it, bt⟩ := pick3 (d6 / 4)
  have bA : BR 26 (q + (c : Rat)) := (BR.add bq (BR_int bc (by decide))).mono (by decide)
  have bT : B 12 ((1 + y % 20) * t) := (B.mul (B.le (n := 5) 21 (by omega) (by omega) (by decide) : B 5 (1 + y % 20)) bt).mono (by decide)
  have bD : B 12 (1 + y / 20 % 4) := B.le 21 (by omega) (by omega) (by decide)
  have dn : 1 + y / 20 % 4 ≠ 0 := by omega
  have lw := llowest_eq ((1 + y % 20) * t) (1 + y / 20 % 4) dn (bD.mono (by decide))
  have bU := BR.divInt dn bT bD
  generalize Rat.divInt ((1 + y % 20) * t) (1 + y / 20 % 4) = u at *
  have p := lplus_eq q (c : Rat) (bq.mono (by decide)) ((BR_int bc (by decide)).mono (by decide))
  rw [fr_int] at p
  have p2 := lplus_eq (q + (c : Rat)) u (bA.mono (by decide)) (bU.mono (by decide))
  exact ⟨_, _, bA.mono (by decide), (BR.add bA bU).mono (by decide), fun ds hl => rstep L X s1 j x y d6 c t ds ix iy i6 ic it _ _ _ _ f p lw p2 bj bx b_y b6 (bt.mono (by decide)) hl⟩
theorem dg_B (v : Int) : B 10 (v % 1000) := B.le 1000 (by omega) (by omega) (by decide)
theorem ranges_ex (ns : List Int) (k : Int) (h0 : 0 ≤ k) (h1 : k < 100) : ∃ a b c d e f : Rat, fn__law_ranges [.lst (ns.map D.int), .int k] = .ok (.lst [.tup [fr a, fr b], .tup [fr c, fr d], .tup [fr e, fr f]]) ∧ (BR 40 a ∧ BR 40 b) ∧ (BR 40 c ∧ BR 40 d) ∧ (BR 40 e ∧ BR 40 f) := by
  obtain ⟨v, dr⟩ := draws_ex ns k h0 h1
  rw [fn__law_ranges_eq]
  unfold dgs at dr
  have b0 := dg_B v
  have b1 := dg_B (v / 1000)
  have b2 := dg_B (v / 1000 / 1000)
  have b3 := dg_B (v / 1000 / 1000 / 1000)
  have b4 := dg_B (v / 1000 / 1000 / 1000 / 1000)
  have b5 := dg_B (v / 1000 / 1000 / 1000 / 1000 / 1000)
  have b6 := dg_B (v / 1000 / 1000 / 1000 / 1000 / 1000 / 1000)
  generalize v / 1000 / 1000 / 1000 / 1000 / 1000 / 1000 / 1000 % 1000 = d7 at dr
  generalize v / 1000 / 1000 / 1000 / 1000 / 1000 / 1000 % 1000 = d6 at dr b6
  generalize v / 1000 / 1000 / 1000 / 1000 / 1000 % 1000 = d5 at dr b5
  generalize v / 1000 / 1000 / 1000 / 1000 % 1000 = d4 at dr b4
  generalize v / 1000 / 1000 / 1000 % 1000 = d3 at dr b3
  generalize v / 1000 / 1000 % 1000 = d2 at dr b2
  generalize v / 1000 % 1000 = d1 at dr b1
  generalize v % 1000 = d0 at dr b0
  obtain ⟨p1, q1, x1, y1, s1⟩ := rstep_ex (.lst (ns.map D.int)) (.lst [.int d0, .int d1, .int d2, .int d3, .int d4, .int d5, .int d6, .int d7]) (.va (.int k)) 0 d0 d1 d6 rfl rfl rfl (by unfold B; decide) b0 b1 b6
  obtain ⟨p2, q2, x2, y2, s2⟩ := rstep_ex (.lst (ns.map D.int)) (.lst [.int d0, .int d1, .int d2, .int d3, .int d4, .int d5, .int d6, .int d7]) (.va (.int k)) 1 d2 d3 d6 rfl rfl rfl (by unfold B; decide) b2 b3 b6
  obtain ⟨p3, q3, x3, y3, s3⟩ := rstep_ex (.lst (ns.map D.int)) (.lst [.int d0, .int d1, .int d2, .int d3, .int d4, .int d5, .int d6, .int d7]) (.va (.int k)) 2 d4 d5 d6 rfl rfl rfl (by unfold B; decide) b4 b5 b6
  refine ⟨p1, q1, p2, q2, p3, q3, ?_, ⟨x1, y1⟩, ⟨x2, y2⟩, ⟨x3, y3⟩⟩
  have lp : forF [4, 5, 6] (Tg.var 4).st lb1__law_ranges [.int 0, .int 1, .int 2] [.va (.lst (ns.map D.int)), .va (.int k), .va (.lst [.int d0, .int d1, .int d2, .int d3, .int d4, .int d5, .int d6, .int d7]), .ow (.lst []), .no, .no, .no] = .nx [.va (.lst (ns.map D.int)), .va (.int k), .va (.lst [.int d0, .int d1, .int d2, .int d3, .int d4, .int d5, .int d6, .int d7]), .ow (.lst [.tup [fr p1, fr q1], .tup [fr p2, fr q2], .tup [fr p3, fr q3]]), .no, .no, .no] := by
    rw [forF_cons_fin rfl (s1 [] (by decide)), forF_cons_fin rfl (s2 _ (by show (1 : Nat) < 1000000; decide)), forF_cons_fin rfl (s3 _ (by show (2 : Nat) < 1000000; decide))]
    rfl
  clear s1 s2 s3
  generalize D.lst (ns.map D.int) = L at *
  generalize D.lst [.int d0, .int d1, .int d2, .int d3, .int d4, .int d5, .int d6, .int d7] = X at *
  generalize D.tup [fr p1, fr q1] = A1 at *
  generalize D.tup [fr p2, fr q2] = A2 at *
  generalize D.tup [fr p3, fr q3] = A3 at *
  simp_arith [sh__law_ranges, sFor_, kFor_ok, rngK_1, rngD_0, rngD_s, dr, lp]
theorem pick2 (d x y : Int) : ∃ t : Int, idxD (.lst [.int x, .int y]) (.int (d % 2)) = some (.int t) ∧ (t = x ∨ t = y) := by
  have h : d % 2 = 0 ∨ d % 2 = 1 := by omega
  rcases h with h | h <;> rw [h]
  · exact ⟨_, rfl, .inl rfl⟩
  · exact ⟨_, rfl, .inr rfl⟩
theorem rg_ok' : ∀ m : Fin 41, rgOk 1 (m.val : Int) 2 = true := by decide
/-! between the ends -/
theorem lo6_le : ∀ (xs : List Rat) (y : Rat), lo6 y xs ≤ y ∧ ∀ z ∈ xs, lo6 y xs ≤ z
  | [], y => ⟨Rat.le_refl, fun _ h => nomatch h⟩
  | x :: xs, y => by
    obtain ⟨h1, h2⟩ := lo6_le xs (mn y x)
    have e : lo6 y (x :: xs) = lo6 (mn y x) xs := rfl
    have k1 : mn y x ≤ y := by unfold mn; split <;> grind
    have k2 : mn y x ≤ x := by unfold mn; split <;> grind
    rw [e]
    refine ⟨by grind, fun z hz => ?_⟩
    rcases List.mem_cons.mp hz with rfl | hz
    · grind
    · exact h2 z hz
theorem hi6_le : ∀ (xs : List Rat) (y : Rat), y ≤ hi6 y xs ∧ ∀ z ∈ xs, z ≤ hi6 y xs
  | [], y => ⟨Rat.le_refl, fun _ h => nomatch h⟩
  | x :: xs, y => by
    obtain ⟨h1, h2⟩ := hi6_le xs (mx y x)
    have e : hi6 y (x :: xs) = hi6 (mx y x) xs := rfl
    have k1 : y ≤ mx y x := by unfold mx; split <;> grind
    have k2 : x ≤ mx y x := by unfold mx; split <;> grind
    rw [e]
    refine ⟨by grind, fun z hz => ?_⟩
    rcases List.mem_cons.mp hz with rfl | hz
    · grind
    · exact h2 z hz
theorem mul_nn {a b : Rat} (h : 0 ≤ a) (k : 0 ≤ b) : 0 ≤ a * b := Rat.mul_nonneg h k
theorem div_mulR (z d : Rat) (h : d ≠ 0) : z / d * d = z := Rat.div_mul_cancel h
theorem nn_of_mul {a d : Rat} (h : 0 ≤ a * d) (k : 0 < d) : 0 ≤ a := by
  apply Classical.byContradiction
  intro n
  have n' : 0 < -a := by grind
  have := Rat.mul_pos n' k
  grind
theorem byR_rng {w : Int} {l m y : Rat} (w0 : 0 ≤ w) (h1 : l ≤ y) (h2 : y ≤ m) : 0 ≤ byR w l m * y + whR w l m ∧ byR w l m * y + whR w l m ≤ (w : Rat) := by
  have wR : (0 : Rat) ≤ (w : Rat) := Rat.intCast_nonneg.mpr w0
  unfold whR
  by_cases e : l = m
  · have e2 : y = l := by grind
    have k : byR w l m * y + (0 - byR w l m * l) = 0 := by rw [e2]; grind
    rw [k]
    exact ⟨Rat.le_refl, wR⟩
  · have d0 : 0 < m - l := by grind
    have k : byR w l m * (m - l) = (w : Rat) := by
      unfold byR
      rw [if_neg e]
      exact div_mulR _ _ (by grind)
    generalize byR w l m = b at *
    have b0 : 0 ≤ b := nn_of_mul (by rw [k]; exact wR) d0
    have k1 := mul_nn b0 (show 0 ≤ y - l by grind)
    have k2 := mul_nn b0 (show 0 ≤ m - y by grind)
    constructor <;> grind
theorem byR_lo (w : Int) (l m : Rat) : byR w l m * l + whR w l m = 0 := by
  unfold whR
  grind
theorem byR_hi (w : Int) (l m : Rat) (h : l ≠ m) : byR w l m * m + whR w l m = (w : Rat) := by
  have k : byR w l m * (m - l) = (w : Rat) := by
    unfold byR
    rw [if_neg h]
    exact div_mulR _ _ (sub_ne h)
  unfold whR
  grind
theorem pl_mul (i : Bool) (v : V3) (h : v.z ≠ 0) : pl i v * (v.z : Rat) = (co i v : Rat) := by
  unfold pl
  rw [Rat.divInt_eq_div]
  exact div_mulR _ _ (fun e => h (by
    have := congrArg Rat.num e
    rw [Rat.num_intCast] at this
    exact this))
theorem denR (r : Rat) : 0 < (r.den : Rat) := by
  have := den_pos' r
  exact Rat.intCast_pos.mpr this
theorem num_mul (r : Rat) : (r.num : Rat) = r * (r.den : Rat) := by
  have d := denR r
  have e := div_mulR (r.num : Rat) (r.den : Rat) (by grind)
  have k : (r.num : Rat) / (r.den : Rat) = r := (Rat.divInt_eq_div r.num (r.den : Int)).symm.trans (Rat.num_divInt_den r)
  rw [k] at e
  exact e.symm
theorem mkE_z (p q : V3) (r : Rat) : ((mkE p q r).z : Rat) = (r.den : Rat) * ((p.z : Rat) + (q.z : Rat) * r) := by
  have e : (mkE p q r).z = (r.den : Int) * p.z + r.num * q.z := rfl
  have n := num_mul r
  rw [e, Rat.intCast_add, Rat.intCast_mul, Rat.intCast_mul, n]
  have : (((r.den : Nat) : Int) : Rat) = (r.den : Rat) := rfl
  grind
theorem mkE_co (i : Bool) (p q : V3) (r : Rat) : ((co i (mkE p q r) : Int) : Rat) = (r.den : Rat) * ((co i p : Rat) + (co i q : Rat) * r) := by
  have e : co i (mkE p q r) = (r.den : Int) * co i p + r.num * co i q := by cases i <;> rfl
  have n := num_mul r
  rw [e, Rat.intCast_add, Rat.intCast_mul, Rat.intCast_mul, n]
  have : (((r.den : Nat) : Int) : Rat) = (r.den : Rat) := rfl
  grind
/-- a value between, by weights of one sign -/
theorem mid {A Bz V a b v t l h : Rat} (hV : V = (1 - t) * A + t * Bz) (hv : v * V = (1 - t) * (a * A) + t * (b * Bz)) (t0 : 0 ≤ t) (t1 : t ≤ 1) (P : 0 < A ∧ 0 < Bz) (la : l ≤ a) (lb : l ≤ b) (ah : a ≤ h) (bh : b ≤ h) : l ≤ v ∧ v ≤ h := by
  obtain ⟨A0, B0⟩ := P
  have s0 : 0 ≤ 1 - t := by grind
  have V0 : 0 < V := by
    by_cases e : t = 0
    · rw [hV, e]; grind
    · have k := Rat.mul_pos (show 0 < t by grind) B0
      have k2 := mul_nn s0 (show 0 ≤ A by grind)
      grind
  have w1 : 0 ≤ (1 - t) * A := mul_nn s0 (by grind)
  have w2 : 0 ≤ t * Bz := mul_nn t0 (by grind)
  have k1 := mul_nn w1 (show 0 ≤ a - l by grind)
  have k2 := mul_nn w2 (show 0 ≤ b - l by grind)
  have k3 := mul_nn w1 (show 0 ≤ h - a by grind)
  have k4 := mul_nn w2 (show 0 ≤ h - b by grind)
  have m1 : 0 ≤ v - l := nn_of_mul (d := V) (by
    have e : (v - l) * V = (1 - t) * A * (a - l) + t * Bz * (b - l) := by grind
    rw [e]; grind) V0
  have m2 : 0 ≤ h - v := nn_of_mul (d := V) (by
    have e : (h - v) * V = (1 - t) * A * (h - a) + t * Bz * (h - b) := by grind
    rw [e]; grind) V0
  constructor <;> grind
theorem zsgn {a b : Int} (h : 0 < a * b) : (0 < a ∧ 0 < b) ∨ (0 < -a ∧ 0 < -b) := by
  rcases Int.lt_trichotomy a 0 with x | x | x
  · refine .inr ⟨by omega, ?_⟩
    apply Classical.byContradiction
    intro n
    have h2 : a * b ≤ 0 := Int.mul_nonpos_of_nonpos_of_nonneg (by omega) (by omega)
    omega
  · rw [x, Int.zero_mul] at h; omega
  · refine .inl ⟨x, ?_⟩
    apply Classical.byContradiction
    intro n
    have h2 : a * b ≤ 0 := Int.mul_nonpos_of_nonneg_of_nonpos (by omega) (by omega)
    omega
/-- the place of a value between two ends of one side -/
theorem pl_mid (i : Bool) (p q : V3) {a b v t : Rat} (hv : v = a + (b - a) * t) (t0 : 0 ≤ t) (t1 : t ≤ 1) (hz : 0 < (mkE p q a).z * (mkE p q b).z) :
    (mkE p q v).z ≠ 0 ∧ ∀ l h : Rat, l ≤ pl i (mkE p q a) → l ≤ pl i (mkE p q b) → pl i (mkE p q a) ≤ h → pl i (mkE p q b) ≤ h → l ≤ pl i (mkE p q v) ∧ pl i (mkE p q v) ≤ h := by
  have s := zsgn hz
  have da := denR a
  have db := denR b
  have dv := denR v
  have za := mkE_z p q a
  have zb := mkE_z p q b
  have zv := mkE_z p q v
  have ca := mkE_co i p q a
  have cb := mkE_co i p q b
  have cv := mkE_co i p q v
  have nz : (mkE p q a).z ≠ 0 ∧ (mkE p q b).z ≠ 0 := by rcases s with s | s <;> constructor <;> omega
  have pa := pl_mul i _ nz.1
  have pb := pl_mul i _ nz.2
  have sg : (0 < (p.z : Rat) + (q.z : Rat) * a ∧ 0 < (p.z : Rat) + (q.z : Rat) * b) ∨ (0 < -((p.z : Rat) + (q.z : Rat) * a) ∧ 0 < -((p.z : Rat) + (q.z : Rat) * b)) := by
    have P : ∀ {x d : Rat}, 0 < d → 0 < d * x → 0 < x := fun {x d} hd h => by
      apply Classical.byContradiction
      intro n
      have := mul_nn (show 0 ≤ d by grind) (show 0 ≤ -x by grind)
      grind
    rcases s with ⟨s1, s2⟩ | ⟨s1, s2⟩
    · have r1 : (0 : Rat) < ((mkE p q a).z : Rat) := Rat.intCast_pos.mpr s1
      have r2 : (0 : Rat) < ((mkE p q b).z : Rat) := Rat.intCast_pos.mpr s2
      exact .inl ⟨P da (by rw [← za]; exact r1), P db (by rw [← zb]; exact r2)⟩
    · have r1 : (0 : Rat) < ((-(mkE p q a).z : Int) : Rat) := Rat.intCast_pos.mpr s1
      have r2 : (0 : Rat) < ((-(mkE p q b).z : Int) : Rat) := Rat.intCast_pos.mpr s2
      rw [Rat.intCast_neg] at r1 r2
      exact .inr ⟨P da (by rw [za] at r1; grind), P db (by rw [zb] at r2; grind)⟩
  have X : ∀ {d x y : Rat}, 0 < d → ∀ k : Rat, k * (d * x) = d * y → k * x = y := fun {d x y} hd k e => by
    have h : d * (k * x - y) = 0 := by grind
    have : k * x - y = 0 := by
      rcases Rat.mul_eq_zero.mp h with h | h
      · grind
      · exact h
    grind
  have ea : pl i (mkE p q a) * ((p.z : Rat) + (q.z : Rat) * a) = (co i p : Rat) + (co i q : Rat) * a := X da _ (by rw [← za, ← ca]; exact pa)
  have eb : pl i (mkE p q b) * ((p.z : Rat) + (q.z : Rat) * b) = (co i p : Rat) + (co i q : Rat) * b := X db _ (by rw [← zb, ← cb]; exact pb)
  have VV : (p.z : Rat) + (q.z : Rat) * v = (1 - t) * ((p.z : Rat) + (q.z : Rat) * a) + t * ((p.z : Rat) + (q.z : Rat) * b) := by rw [hv]; grind
  have CC : (co i p : Rat) + (co i q : Rat) * v = (1 - t) * ((co i p : Rat) + (co i q : Rat) * a) + t * ((co i p : Rat) + (co i q : Rat) * b) := by rw [hv]; grind
  have pv : (mkE p q v).z ≠ 0 → pl i (mkE p q v) * ((p.z : Rat) + (q.z : Rat) * v) = (co i p : Rat) + (co i q : Rat) * v := fun h => X dv _ (by rw [← zv, ← cv]; exact pl_mul i _ h)
  clear pa pb ca cb cv za zb X s hz
  generalize (p.z : Rat) + (q.z : Rat) * a = A at *
  generalize (p.z : Rat) + (q.z : Rat) * b = Bz at *
  generalize (p.z : Rat) + (q.z : Rat) * v = V at *
  generalize (co i p : Rat) + (co i q : Rat) * a = Ca at *
  generalize (co i p : Rat) + (co i q : Rat) * b = Cb at *
  generalize (co i p : Rat) + (co i q : Rat) * v = Cv at *
  generalize pl i (mkE p q a) = x at *
  generalize pl i (mkE p q b) = y at *
  have Vn : V ≠ 0 := by
    have s0 : 0 ≤ 1 - t := by grind
    have W : ∀ {A Bz : Rat}, 0 < A → 0 < Bz → 0 < (1 - t) * A + t * Bz := fun {A Bz} A0 B0 => by
      have k2 := mul_nn s0 (show 0 ≤ A by grind)
      by_cases e : t = 0
      · rw [e]; grind
      · have k := Rat.mul_pos (show 0 < t by grind) B0
        grind
    rcases sg with ⟨A0, B0⟩ | ⟨A0, B0⟩
    · have := W A0 B0
      grind
    · have := W A0 B0
      grind
  have zn : (mkE p q v).z ≠ 0 := fun e => by
    rw [e] at zv
    have z0 : ((0 : Int) : Rat) = 0 := rfl
    rw [z0] at zv
    rcases Rat.mul_eq_zero.mp zv.symm with h | h
    · grind
    · exact Vn h
  have pv := pv zn
  refine ⟨zn, fun l h h1 h2 h3 h4 => ?_⟩
  generalize pl i (mkE p q v) = w at *
  rcases sg with sg | sg
  · exact mid VV (by rw [pv, CC, ea, eb]) t0 t1 sg h1 h2 h3 h4
  · exact mid (A := -A) (Bz := -Bz) (V := -V) (by rw [VV]; grind) (by
      have : w * -V = -Cv := by grind
      rw [this, CC, ← ea, ← eb]; grind) t0 t1 sg h1 h2 h3 h4
theorem fr_neg (q : Rat) : fr (-q) = .tup [.int (-q.num), .int q.den] := by
  unfold fr
  rw [Rat.neg_num, Rat.neg_den]
theorem between_ok (a b : Rat) (n : Int) (ha : BR 40 a) (hb : BR 40 b) (bn : B 10 n) : fn__law_between [.tup [fr a, fr b], .int n] = .ok (fr (a + (b + -a) * Rat.divInt n 1000)) ∧ BR 140 (a + (b + -a) * Rat.divInt n 1000) := by
  rw [fn__law_between_eq]
  have k10 : B 10 (1000 : Int) := by unfold B; decide
  have bd : BR 10 (Rat.divInt n 1000) := BR.divInt (by decide) bn k10
  have l := llowest_eq n 1000 (by decide) (k10.mono (by decide))
  generalize Rat.divInt n 1000 = t at *
  have bna := BR.neg ha
  have b1 : BR 81 (b + -a) := (BR.add hb bna).mono (by decide)
  have p1 := lplus_eq b (-a) (hb.mono (by decide)) (bna.mono (by decide))
  rw [fr_neg] at p1
  have b2 : BR 91 ((b + -a) * t) := (BR.mul b1 bd).mono (by decide)
  have tm := ltimes_eq (b + -a) t (b1.mono (by decide)) (bd.mono (by decide))
  have p2 := lplus_eq a ((b + -a) * t) (ha.mono (by decide)) (b2.mono (by decide))
  refine ⟨?_, (BR.add ha b2).mono (by decide)⟩
  have i0 : idxD (fr a) (.int 0) = some (.int a.num) := rfl
  have i1 : idxD (fr a) (.int 1) = some (.int a.den) := rfl
  have tg : ∀ δ, Tg.st (.tup [3, 4]) (.tup [fr a, fr b]) δ = stDs [3, 4] [fr a, fr b] δ := fun _ => rfl
  obtain ⟨a1, a2⟩ := ha
  generalize fr (a + (b + -a) * t) = R at *
  generalize fr ((b + -a) * t) = R1 at *
  generalize fr (b + -a) = R2 at *
  generalize D.tup [fr a, fr b] = E at *
  generalize fr a = A at *
  generalize fr b = Bb at *
  generalize fr t = T at *
  simp_arith [sh__law_between, tg, i0, i1, p1, l, tm, p2]
theorem on_sheet_ok (v : V3) (w h : Int) (bv : V3.BV 3000 v) (bw : B 30 w) (bh : B 30 h) (z : 0 < v.z) (x0 : 0 ≤ v.x) (x1 : v.x ≤ w * v.z) (y0 : 0 ≤ v.y) (y1 : v.y ≤ h * v.z) : fn__law_on_the_sheet [v.tr, .int w, .int h] = .ok (.bl true) := by
  rw [fn__law_on_the_sheet_eq]
  have i0 : idxD v.tr (.int 0) = some (.int v.x) := rfl
  have i1 : idxD v.tr (.int 1) = some (.int v.y) := rfl
  have i2 : idxD v.tr (.int 2) = some (.int v.z) := rfl
  obtain ⟨b1, b2, b3⟩ := bv
  have z' : ¬ v.z ≤ 0 := by omega
  generalize v.tr = V at *
  simp_arith [sh__law_on_the_sheet, i0, i1, i2, z', x0, x1, y0, y1]
theorem cmapE {α : Type} {e : α → D} {δ : En} {g : D → En → Option En} {f : Den} {vs : List Nat} {h : α → D} : ∀ {xs : List α}, (∀ x ∈ xs, ∃ δ1, g (e x) δ = some δ1 ∧ ∃ δ3, f δ1 = .ok (h x) δ3 ∧ wipeD δ3 vs = δ) → compF g none f vs (xs.map e) δ = some (xs.map h, δ)
  | [], _ => rfl
  | x :: xs, H => by
    obtain ⟨δ1, e1, δ3, e2, e3⟩ := H x List.mem_cons_self
    rw [List.map_cons, compF_0, e1, cS_s, e2, cE_ok, e3, cmapE fun d hd => H d (List.mem_cons_of_mem _ hd)]
    rfl
theorem compF_filG {α : Type} {e : α → D} {δ : En} {g : D → En → Option En} {c f : Den} {vs : List Nat} {p : α → Bool} {h : α → D} : ∀ {xs : List α}, (∀ x ∈ xs, ∃ δ1, g (e x) δ = some δ1 ∧ ∃ δ2, c δ1 = .ok (.bl (p x)) δ2 ∧ wipeD δ2 vs = δ ∧ ∃ δ3, f δ2 = .ok (h x) δ3 ∧ wipeD δ3 vs = δ) → compF g (some c) f vs (xs.map e) δ = some ((xs.filter p).map h, δ)
  | [], _ => rfl
  | x :: xs, H => by
    obtain ⟨δ1, e1, δ2, e2, h2, δ3, e3, e4⟩ := H x List.mem_cons_self
    have r := compF_filG (xs := xs) fun d hd => H d (List.mem_cons_of_mem _ hd)
    rw [List.map_cons, compF_1, e1, cT_s, e2, cB_ok]
    cases hp : p x with
    | true =>
      rw [if_pos rfl, e3, cE_ok, e4, r, List.filter_cons_of_pos hp]
      rfl
    | false => rw [if_neg (by simp), h2, r, List.filter_cons_of_neg (by simp [hp])]
theorem isin_fr {q : Rat} {ys : List Rat} : COp.fn .isin (fr q) (.lst (ys.map fr)) = some (.bl (decide (q ∈ ys))) := by
  have shl : ∀ {n : Nat} (vs : List Rat), shps (n + 1) (vs.map fr) = true := fun {n} vs => by
    induction vs with
    | nil => exact shps_n
    | cons v vs ih => rw [List.map_cons, shps_c, ih, shp_fr]; rfl
  have s1 : SeqAt.shaped (toPy (fr q)) = true := by
    obtain ⟨a, b⟩ := shp_ok (fr q) 64 (shp_fr q)
    unfold SeqAt.shaped
    rw [a, decide_eq_true b]
    rfl
  have s2 : SeqAt.shaped (.list (toPys (ys.map fr))) = true := by
    obtain ⟨a, b⟩ := shp_ok (.lst (ys.map fr)) 64 (by rw [shp_l]; exact shl ys)
    unfold toPy at a b
    unfold SeqAt.shaped
    rw [a, decide_eq_true b]
    rfl
  have s3 : ∀ ys : List Rat, ((toPys (ys.map fr)).any fun z => PyData.eqv z (toPy (fr q))) = decide (q ∈ ys) := by
    intro ys
    induction ys with
    | nil => unfold toPys List.map; simp
    | cons y ys ih =>
      rw [List.map_cons, toPys, List.any_cons, ih]
      have : PyData.eqv (toPy (fr y)) (toPy (fr q)) = decide (y = q) := by
        have := eq1_tt (a := [.int y.num, .int y.den]) (b := [.int q.num, .int q.den])
        rw [eqs_fr] at this
        exact this
      show (PyData.eqv (toPy (fr y)) (toPy (fr q)) || _) = _
      rw [this, ← Bool.decide_or]
      refine decide_eq_decide.mpr ?_
      rw [List.mem_cons]
      exact ⟨fun h => h.elim (fun e => .inl e.symm) .inr, fun h => h.elim (fun e => .inl e.symm) .inr⟩
  show (if SeqAt.shaped (toPy (fr q)) && SeqAt.shaped (.list (toPys (ys.map fr))) then some ((toPys (ys.map fr)).any fun z => PyData.eqv z (toPy (fr q))) else none).map D.bl = _
  rw [s1, s2, s3]
  rfl
theorem shps_fr {n : Nat} (vs : List Rat) : shps (n + 1) (vs.map fr) = true := by
  induction vs with
  | nil => exact shps_n
  | cons v vs ih => rw [List.map_cons, shps_c, ih, shp_fr]; rfl
theorem borders_ok (i : Bool) (w : Int) (ms : List V3) (hm : ∀ v ∈ ms, v.z ≠ 0 ∧ V3.BV 3000 v) (hl : ms.length ≤ 1000) (H : (∀ v ∈ ms, pl i v = 0) ∨ ((∃ v ∈ ms, pl i v = 0) ∧ ∃ v ∈ ms, pl i v = (w : Rat))) : fn__law_borders [.lst (ms.map V3.tr), .int (ci i), .int w] = .ok (.bl true) := by
  rw [fn__law_borders_eq]
  have sq1 : ∀ δ, seqK (.ok (.lst (ms.map V3.tr)) δ) = .ok (ms.map V3.tr) δ := fun _ => rfl
  have sq2 : ∀ δ, seqK (.ok (.lst ((ms.map (pl i)).map fr)) δ) = .ok ((ms.map (pl i)).map fr) δ := fun _ => rfl
  have l1 : (ms.map V3.tr).length ≤ 1000000 := by rw [List.length_map]; omega
  have l2 : ((ms.map (pl i)).map fr).length ≤ 1000000 := by rw [List.length_map, List.length_map]; omega
  have c1 : ∀ s0 s2 s3 s5, compF (Tg.var 4).st none ce1__law_borders [4] (ms.map V3.tr) [s0, .va (.int (ci i)), s2, s3, .no, s5] = some ((ms.map (pl i)).map fr, [s0, .va (.int (ci i)), s2, s3, .no, s5]) := fun s0 s2 s3 s5 => by
    rw [List.map_map]
    refine cmapE (h := fr ∘ pl i) fun v hv => ⟨[s0, .va (.int (ci i)), s2, s3, .va v.tr, s5], rfl, [s0, .va (.int (ci i)), s2, s3, .va v.tr, s5], ?_, rfl⟩
    obtain ⟨vz, vb⟩ := hm v hv
    have i0 := idx_co i v
    have i2 := V3.idx2 v
    have l := llowest_eq (co i v) v.z vz (vb.2.2.mono (by decide))
    show ce1__law_borders [s0, .va (.int (ci i)), s2, s3, .va v.tr, s5] = .ok (fr (Rat.divInt (co i v) v.z)) _
    generalize fr (Rat.divInt (co i v) v.z) = A at *
    generalize v.tr = V at *
    simp_arith [ce1__law_borders, i0, i2, l]
  have c2 : ∀ s0 s1 s2 s3 s4, compF (Tg.var 5).st (some ct1__law_borders) ce2__law_borders [5] ((ms.map (pl i)).map fr) [s0, s1, s2, s3, s4, .no] = some (((ms.map (pl i)).filter fun y => !decide (y = 0)).map fr, [s0, s1, s2, s3, s4, .no]) := fun s0 s1 s2 s3 s4 => by
    refine compF_filG (h := fr) (p := fun y => !decide (y = 0)) fun y _ => ⟨[s0, s1, s2, s3, s4, .va (fr y)], rfl, [s0, s1, s2, s3, s4, .va (fr y)], ?_, rfl, [s0, s1, s2, s3, s4, .va (fr y)], ?_, rfl⟩
    · have c := cop_ne_fr (p := y) (q := 0)
      rw [← fr_0] at c
      generalize (!decide (y = 0)) = b at *
      generalize fr y = Y at *
      simp_arith [-cop_ne_tt, ct1__law_borders, c]
    · generalize fr y = Y at *
      simp_arith [ce2__law_borders]
  have hz : ∀ q : Rat, (∃ v ∈ ms, pl i v = q) → COp.fn .isin (fr q) (.lst ((ms.map (pl i)).map fr)) = some (.bl true) := fun q h => by
    rw [isin_fr, decide_eq_true (List.mem_map.mpr h)]
  by_cases h0 : ∀ v ∈ ms, pl i v = 0
  · have e : ((ms.map (pl i)).filter fun y => !decide (y = 0)) = [] := List.filter_eq_nil_iff.mpr fun y hy => by
      obtain ⟨v, hv, rfl⟩ := List.mem_map.mp hy
      simp [h0 v hv]
    rw [e] at c2
    have c3 : COp.fn .eq (.lst (List.map fr [])) (.lst []) = some (.bl true) := by
      rw [List.map_nil, cop_eq_ll (by rw [shp_l, shps_n]) (by rw [shp_l, shps_n]), eqs_nn]
    generalize ms.map V3.tr = M at *
    generalize (ms.map (pl i)).map fr = Y at *
    generalize List.map fr [] = N at *
    simp_arith [-cop_eq_ll, sh__law_borders, sq1, sq2, c1, c2, c3, l1, l2]
  · obtain ⟨h1, h2⟩ := H.resolve_left h0
    have z1 := hz _ h1
    have z2 := hz _ h2
    rw [← fr_0] at z1
    rw [fr_int] at z2
    have c3 : COp.fn .eq (.lst (((ms.map (pl i)).filter fun y => !decide (y = 0)).map fr)) (.lst []) = some (.bl false) := by
      rw [cop_eq_ll (by rw [shp_l]; exact shps_fr _) (by rw [shp_l, shps_n])]
      cases h : (ms.map (pl i)).filter fun y => !decide (y = 0) with
      | nil =>
        exfalso
        apply h0
        intro v hv
        have := List.filter_eq_nil_iff.mp h (pl i v) (List.mem_map.mpr ⟨v, hv, rfl⟩)
        simpa using this
      | cons y ys => rw [List.map_cons, eqs_cn]
    generalize ms.map V3.tr = M at *
    generalize (((ms.map (pl i)).filter fun y => !decide (y = 0)).map fr) = N at *
    generalize (ms.map (pl i)).map fr = Y at *
    simp_arith [-cop_eq_ll, sh__law_borders, sq1, sq2, c1, c2, c3, l1, l2, z1, z2]
theorem nm_z_pos (v : V3) (h : v ≠ .o3) (hz : v.z ≠ 0) : 0 < v.nm.z := by
  have e := nm_z v h hz
  have l : lz v.nm.li = v.nm.z := by
    unfold V3.li
    simp [lz, e]
  have k : 0 < lz v.nm.li := by
    have n : v.nm.li = nrm v.li := rfl
    rw [n]
    exact lz_nrm (fun z => hz (lz_zero z v.z (by simp [V3.li])))
  omega
/-- a place within, said of the spot -/
theorem within (i : Bool) (v : V3) (w : Int) (hz : 0 < v.z) (h0 : 0 ≤ pl i v) (h1 : pl i v ≤ (w : Rat)) : 0 ≤ co i v ∧ co i v ≤ w * v.z := by
  have e := pl_mul i v (by omega)
  have z : (0 : Rat) < (v.z : Rat) := Rat.intCast_pos.mpr hz
  have a := mul_nn h0 (show (0 : Rat) ≤ (v.z : Rat) by grind)
  have b := mul_nn (show (0 : Rat) ≤ (w : Rat) - pl i v by grind) (show (0 : Rat) ≤ (v.z : Rat) by grind)
  rw [e] at a
  have b' : (0 : Rat) ≤ ((w * v.z - co i v : Int) : Rat) := by
    rw [Rat.intCast_sub, Rat.intCast_mul]
    grind
  exact ⟨Rat.intCast_nonneg.mp a, by have := Rat.intCast_nonneg.mp b'; omega⟩
theorem lb2_step (C R X F Sp S' E Vv Dt s10 : D) (w h n j : Int) (iF : idxD F (.int j) = some S') (iR : idxD R (.int j) = some E) (bt : fn__law_between [E, .int n] = .ok Vv) (mk : fn_mark [S', Vv] = .ok Dt) (on : fn__law_on_the_sheet [Dt, .int w, .int h] = .ok (.bl true)) :
    finK [8, 9] (lb2__law_good [.va C, .va R, .va X, .va (.int w), .va (.int h), .va F, .va Sp, .va (.int j), .va (.int n), .no, .no]) = some [.va C, .va R, .va X, .va (.int w), .va (.int h), .va F, .va Sp, .va (.int j), .no, .no, .no] := by
  simp_arith [lb2__law_good, iF, iR, bt, mk, on, finK_nx]
theorem lb1_step (C R F S' E E0 E1 M0 M1 : D) (ds : List Int) (w h j : Int) (sp : List D) (hsp : sp.length ≤ 100) (hds : ds.length ≤ 100) (iF : idxD F (.int j) = some S') (iR : idxD R (.int j) = some E) (hE : E = .tup [E0, E1]) (m0 : fn_mark [S', E0] = .ok M0) (m1 : fn_mark [S', E1] = .ok M1)
    (H : ∀ n ∈ ds ++ [0, 999], ∃ Vv Dt : D, fn__law_between [E, .int n] = .ok Vv ∧ fn_mark [S', Vv] = .ok Dt ∧ fn__law_on_the_sheet [Dt, .int w, .int h] = .ok (.bl true)) :
    finK [7, 8, 9] (lb1__law_good [.va C, .va R, .va (.lst (ds.map D.int)), .va (.int w), .va (.int h), .va F, .va (.lst sp), .va (.int j), .no, .no, .no]) = some [.va C, .va R, .va (.lst (ds.map D.int)), .va (.int w), .va (.int h), .va F, .va (.lst (sp ++ [M0, M1])), .no, .no, .no, .no] := by
  have sq : ∀ δ, seqK (.ok E δ) = .ok [E0, E1] δ := fun _ => by rw [hE]; rfl
  have ad : addD (.lst sp) (.lst [M0, M1]) = some (.lst (sp ++ [M0, M1])) := addD_ll (by show sp.length + 2 ≤ 1000000; omega)
  have ax : addD (.lst (ds.map D.int)) (.lst [.int 0, .int 999]) = some (.lst ((ds ++ [0, 999]).map D.int)) := by
    rw [addD_ll (by rw [List.length_map]; show ds.length + 2 ≤ 1000000; omega), List.map_append]
    rfl
  have sx : ∀ δ, seqK (.ok (.lst ((ds ++ [0, 999]).map D.int)) δ) = .ok ((ds ++ [0, 999]).map D.int) δ := fun _ => rfl
  have hl : ((ds ++ [0, 999]).map D.int).length ≤ 1000000 := by rw [List.length_map, List.length_append]; show ds.length + 2 ≤ 1000000; omega
  have lp : ∀ X Sp : D, forF [8, 9] (Tg.var 8).st lb2__law_good ((ds ++ [0, 999]).map D.int) [.va C, .va R, .va X, .va (.int w), .va (.int h), .va F, .va Sp, .va (.int j), .no, .no, .no] = .nx [.va C, .va R, .va X, .va (.int w), .va (.int h), .va F, .va Sp, .va (.int j), .no, .no, .no] := fun X Sp => by
    rw [forF_fin]
    intro d hd
    obtain ⟨n, hn, rfl⟩ := List.mem_map.mp hd
    obtain ⟨Vv, Dt, b, m, o⟩ := H n hn
    exact ⟨_, rfl, lb2_step C R X F Sp S' E Vv Dt .non w h n j iF iR b m o⟩
  clear H hE
  generalize (ds ++ [0, 999]).map D.int = Ls at *
  generalize D.lst Ls = LL at *
  generalize D.lst (ds.map D.int) = X at *
  have c : ∀ (X Sp : D), compF (Tg.var 10).st none ce1__law_good [10] [E0, E1] [.va C, .va R, .va X, .va (.int w), .va (.int h), .va F, .va Sp, .va (.int j), .no, .no, .no] = some ([M0, M1], [.va C, .va R, .va X, .va (.int w), .va (.int h), .va F, .va Sp, .va (.int j), .no, .no, .no]) := fun X Sp => by
    simp_arith [ce1__law_good, iF, m0, m1]
  generalize D.lst (sp ++ [M0, M1]) = Q at *
  generalize D.lst sp = Sp at *
  simp_arith [lb1__law_good, sFor_, kFor_ok, iF, iR, sq, c, ad, ax, sx, hl, lp, finK_nx]
theorem good_abs (C Rg T : D) (ds : List Int) (wd ht : Int) (e : List Int) (m1 m2 m3 m4 m5 m6 : V3) (a1 a2 a3 b1 b2 b3 c1 c2 c3 : D) (fd : fn_fitted [C, Rg, .int wd, .int ht] = .ok T) (q1 : fn_equation [T] = .ok (.tup (e.map D.int))) (q2 : fn_equation [C] = .ok (.tup (e.map D.int))) (he : shp 64 (.tup (e.map D.int)) = true)
    (s1 : ∀ sp : List D, sp.length ≤ 100 → finK [7, 8, 9] (lb1__law_good [.va C, .va Rg, .va (.lst (ds.map D.int)), .va (.int wd), .va (.int ht), .va T, .va (.lst sp), .va (.int 0), .no, .no, .no]) = some [.va C, .va Rg, .va (.lst (ds.map D.int)), .va (.int wd), .va (.int ht), .va T, .va (.lst (sp ++ [m1.tr, m2.tr])), .no, .no, .no, .no])
    (s2 : ∀ sp : List D, sp.length ≤ 100 → finK [7, 8, 9] (lb1__law_good [.va C, .va Rg, .va (.lst (ds.map D.int)), .va (.int wd), .va (.int ht), .va T, .va (.lst sp), .va (.int 1), .no, .no, .no]) = some [.va C, .va Rg, .va (.lst (ds.map D.int)), .va (.int wd), .va (.int ht), .va T, .va (.lst (sp ++ [m3.tr, m4.tr])), .no, .no, .no, .no])
    (s3 : ∀ sp : List D, sp.length ≤ 100 → finK [7, 8, 9] (lb1__law_good [.va C, .va Rg, .va (.lst (ds.map D.int)), .va (.int wd), .va (.int ht), .va T, .va (.lst sp), .va (.int 2), .no, .no, .no]) = some [.va C, .va Rg, .va (.lst (ds.map D.int)), .va (.int wd), .va (.int ht), .va T, .va (.lst (sp ++ [m5.tr, m6.tr])), .no, .no, .no, .no])
    (o1 : fn__law_borders [.lst ([m1, m2, m3, m4, m5, m6].map V3.tr), .int 0, .int wd] = .ok (.bl true)) (o2 : fn__law_borders [.lst ([m1, m2, m3, m4, m5, m6].map V3.tr), .int 1, .int ht] = .ok (.bl true)) : fn__law_good [C, Rg, .lst (ds.map D.int), .int wd, .int ht] = .ok (.bl true) := by
  rw [fn__law_good_eq]
  have nq := cop_ne_refl he
  have lp : forF [7, 8, 9] (Tg.var 7).st lb1__law_good [.int 0, .int 1, .int 2] [.va C, .va Rg, .va (.lst (ds.map D.int)), .va (.int wd), .va (.int ht), .va T, .va (.lst []), .no, .no, .no, .no] = .nx [.va C, .va Rg, .va (.lst (ds.map D.int)), .va (.int wd), .va (.int ht), .va T, .va (.lst ([m1, m2, m3, m4, m5, m6].map V3.tr)), .no, .no, .no, .no] := by
    rw [forF_cons_fin rfl (s1 [] (by decide)), forF_cons_fin rfl (s2 _ (by show (2 : Nat) ≤ 100; decide)), forF_cons_fin rfl (s3 _ (by show (4 : Nat) ≤ 100; decide))]
    rfl
  clear s1 s2 s3 he
  generalize D.lst ([m1, m2, m3, m4, m5, m6].map V3.tr) = Q at *
  generalize D.tup (e.map D.int) = Eq at *
  generalize D.lst (ds.map D.int) = X at *
  simp_arith [-cop_ne_tt, sh__law_good, sFor_, kFor_ok, rngK_1, rngD_0, rngD_s, fd, q1, q2, nq, lp, o1, o2]
theorem border_fact (ms : List V3) (i : Bool) (ys : List Rat) {b c lo hi w : Rat} (mp : ms.map (pl i) = ys.map fun y => b * y + c) (hlo : lo ∈ ys) (hhi : hi ∈ ys) (hle : ∀ y ∈ ys, lo ≤ y ∧ y ≤ hi) (z0 : b * lo + c = 0) (z1 : lo ≠ hi → b * hi + c = w) : (∀ v ∈ ms, pl i v = 0) ∨ ((∃ v ∈ ms, pl i v = 0) ∧ ∃ v ∈ ms, pl i v = w) := by
  have ex : ∀ y ∈ ys, ∃ v ∈ ms, pl i v = b * y + c := fun y hy => by
    have : b * y + c ∈ ms.map (pl i) := by rw [mp]; exact List.mem_map.mpr ⟨y, hy, rfl⟩
    exact List.mem_map.mp this
  by_cases e : lo = hi
  · refine .inl fun v hv => ?_
    have : pl i v ∈ ys.map fun y => b * y + c := by rw [← mp]; exact List.mem_map.mpr ⟨v, hv, rfl⟩
    obtain ⟨y, hy, ey⟩ := List.mem_map.mp this
    obtain ⟨k1, k2⟩ := hle y hy
    have : y = lo := by grind
    rw [← ey, this]
    exact z0
  · refine .inr ⟨?_, ?_⟩
    · obtain ⟨v, hv, ev⟩ := ex lo hlo
      exact ⟨v, hv, ev.trans z0⟩
    · obtain ⟨v, hv, ev⟩ := ex hi hhi
      exact ⟨v, hv, ev.trans (z1 e)⟩
/-- a mark of the fitted chart, between the ends -/
theorem dot_ok {H : M3} (hd : H.det ≠ 0) (hB : M3.BM 800 H) (p q : V3) (c : V3.cr p q ≠ .o3) (bp : V3.BV 30 p) (bq : V3.BV 30 q) (v : Rat) (bv : BR 140 v) (vz : (mkE p q v).z ≠ 0) (f : Bool → Rat → Rat) (PF : ∀ i, pl i (H.ld (mkE p q v)) = f i (pl i (mkE p q v)) ∧ (H.ld (mkE p q v)).z ≠ 0) :
    ∃ d : V3, fn_mark [scl (ls1 H p q) (ls2 H p q), fr v] = .ok d.tr ∧ 0 < d.z ∧ V3.BV 1500 d ∧ ∀ i, pl i d = f i (pl i (mkE p q v)) := by
  have cc : V3.cr (ls1 H p q) (ls2 H p q) ≠ .o3 := n6_cr (cr_led hd c)
  obtain ⟨b1, b2⟩ := ls_B hB bp bq
  have mk := mark_eq (ls1 H p q) (ls2 H p q) v.num v.den cc (frne v) (b1.mono (by decide)) (b2.mono (by decide)) (bv.1.mono (by decide)) (bv.2.mono (by decide))
  have nz : mkE (ls1 H p q) (ls2 H p q) v ≠ .o3 := mk_ne cc (frne v)
  have z := (pl_led hd c v false).2 (PF false).2
  have bB : V3.BV 1500 (mkE (ls1 H p q) (ls2 H p q) v) := by
    have := mkE_B b1 b2 bv
    exact ⟨this.1.mono (by decide), this.2.1.mono (by decide), this.2.2.mono (by decide)⟩
  exact ⟨(mkE (ls1 H p q) (ls2 H p q) v).nm, mk, nm_z_pos _ nz z, bB.nm, fun i => (pl_nm i _ nz).trans ((pl_led hd c v i).1.trans (PF i).1)⟩
/-- a scale's turn in the law's look -/
theorem scale_ok {H : M3} (hd : H.det ≠ 0) (hB : M3.BM 800 H) (x : SE) (hx : SE.Ok 20 x) (hp : 0 < x.M.z * x.N.z) (f : Bool → Rat → Rat) (w : Bool → Int) (lo hi : Bool → Rat) (bw : ∀ i, B 25 (w i))
    (PF : ∀ i (v : V3), v ≠ .o3 → v.z ≠ 0 → pl i (H.ld v) = f i (pl i v) ∧ (H.ld v).z ≠ 0) (rg : ∀ i y, lo i ≤ y → y ≤ hi i → 0 ≤ f i y ∧ f i y ≤ (w i : Rat))
    (hm : ∀ i, (lo i ≤ pl i x.M ∧ pl i x.M ≤ hi i) ∧ (lo i ≤ pl i x.N ∧ pl i x.N ≤ hi i)) (ds : List Int) (hds : ∀ n ∈ ds, 0 ≤ n ∧ n < 1000) (hl : ds.length ≤ 100) (C R F : D) (j : Int) (iF : idxD F (.int j) = some (scl (ls1 H x.p x.q) (ls2 H x.p x.q))) (iR : idxD R (.int j) = some x.en) :
    ∃ m0 m1 : V3, (0 < m0.z ∧ V3.BV 1500 m0 ∧ ∀ i, pl i m0 = f i (pl i x.M)) ∧ (0 < m1.z ∧ V3.BV 1500 m1 ∧ ∀ i, pl i m1 = f i (pl i x.N)) ∧
      ∀ sp : List D, sp.length ≤ 100 → finK [7, 8, 9] (lb1__law_good [.va C, .va R, .va (.lst (ds.map D.int)), .va (.int (w false)), .va (.int (w true)), .va F, .va (.lst sp), .va (.int j), .no, .no, .no]) = some [.va C, .va R, .va (.lst (ds.map D.int)), .va (.int (w false)), .va (.int (w true)), .va F, .va (.lst (sp ++ [m0.tr, m1.tr])), .no, .no, .no, .no] := by
  have bp := hx.bp.mono (show 20 ≤ 30 by decide)
  have bq := hx.bq.mono (show 20 ≤ 30 by decide)
  have E : ∀ v : Rat, BR 140 v → (mkE x.p x.q v).z ≠ 0 → _ := fun v bv vz => dot_ok hd hB x.p x.q hx.c bp bq v bv vz f (fun i => PF i _ (mk_ne hx.c (frne v)) vz)
  obtain ⟨m0, k0, z0, b0, p0⟩ := E x.a (hx.ba.mono (by decide)) hx.z1
  obtain ⟨m1, k1, z1, b1, p1⟩ := E x.b (hx.bb.mono (by decide)) hx.z2
  refine ⟨m0, m1, ⟨z0, b0, p0⟩, ⟨z1, b1, p1⟩, fun sp hsp => lb1_step C R F _ x.en (fr x.a) (fr x.b) m0.tr m1.tr ds (w false) (w true) j sp hsp hl iF iR rfl k0 k1 fun n hn => ?_⟩
  have n01 : 0 ≤ n ∧ n < 1000 := by
    rcases List.mem_append.mp hn with h | h
    · exact hds n h
    · rcases List.mem_cons.mp h with rfl | h
      · exact ⟨by decide, by decide⟩
      · rw [List.mem_singleton.mp h]; exact ⟨by decide, by decide⟩
  obtain ⟨bt, bv⟩ := between_ok x.a x.b n hx.ba hx.bb (B.le 1000 (by omega) (by omega) (by decide))
  have t01 : 0 ≤ Rat.divInt n 1000 ∧ Rat.divInt n 1000 ≤ 1 := by
    have e : Rat.divInt n 1000 * (1000 : Rat) = (n : Rat) := by
      rw [Rat.divInt_eq_div]
      exact div_mulR _ _ (by decide)
    have a1 : (0 : Rat) ≤ (n : Rat) := Rat.intCast_nonneg.mpr n01.1
    have a2 : (0 : Rat) ≤ ((1000 - n : Int) : Rat) := Rat.intCast_nonneg.mpr (by omega)
    rw [Rat.intCast_sub] at a2
    have k : (((1000 : Int)) : Rat) = (1000 : Rat) := rfl
    rw [k] at a2
    constructor <;> grind
  generalize Rat.divInt n 1000 = t at *
  have hv : x.a + (x.b + -x.a) * t = x.a + (x.b - x.a) * t := by grind
  have mid := fun i => pl_mid i x.p x.q hv t01.1 t01.2 hp
  obtain ⟨d, kd, zd, bd, pd⟩ := E _ bv (mid false).1
  have wi : ∀ i, 0 ≤ co i d ∧ co i d ≤ w i * d.z := fun i => by
    obtain ⟨l1, l2⟩ := (mid i).2 (lo i) (hi i) (hm i).1.1 (hm i).2.1 (hm i).1.2 (hm i).2.2
    obtain ⟨r1, r2⟩ := rg i _ l1 l2
    exact within i d (w i) zd (by rw [pd]; exact r1) (by rw [pd]; exact r2)
  exact ⟨_, _, bt, kd, on_sheet_ok d (w false) (w true) (bd.mono (by decide)) ((bw false).mono (by decide)) ((bw true).mono (by decide)) zd (wi false).1 (wi false).2 (wi true).1 (wi true).2⟩
theorem good_ok (s t u : SE) (hs : SE.Ok 20 s) (ht : SE.Ok 20 t) (hu : SE.Ok 20 u) (h1 : 0 < s.M.z * s.N.z) (h2 : 0 < t.M.z * t.N.z) (h3 : 0 < u.M.z * u.N.z) (nl : ¬((V3.cr s.p s.q).nm = (V3.cr t.p t.q).nm ∧ (V3.cr t.p t.q).nm = (V3.cr u.p u.q).nm)) (ds : List Int) (hds : ∀ n ∈ ds, 0 ≤ n ∧ n < 1000) (dl : ds.length ≤ 100) (wd hg : Int) (w0' : 0 < wd) (g0' : 0 < hg) (bw : B 25 wd) (bg : B 25 hg) :
    fn__law_good [.tup [s.sc, t.sc, u.sc], .lst [s.en, t.en, u.en], .lst (ds.map D.int), .int wd, .int hg] = .ok (.bl true) := by
  have w0 : wd ≠ 0 := by omega
  have g0 : hg ≠ 0 := by omega
  have mon : ∀ {s : SE}, SE.Ok 20 s → SE.Ok 100 s ∧ SE.Ok 900 s ∧ SE.Ok 1400 s ∧ SE.Ok 30 s := fun h => ⟨h.mono (by decide), h.mono (by decide), h.mono (by decide), h.mono (by decide)⟩
  obtain ⟨s1, s2, s3, s4⟩ := mon hs
  obtain ⟨t1, t2, t3, t4⟩ := mon ht
  obtain ⟨u1, u2, u3, u4⟩ := mon hu
  have bpl : ∀ (i : Bool), ∀ y ∈ pls i s t u, BR 61 y := fun i y hy => by
    unfold pls at hy
    simp only [List.mem_cons, List.not_mem_nil, or_false] at hy
    rcases hy with rfl | rfl | rfl | rfl | rfl | rfl
    · exact pl_B i hs.mB hs.z1
    · exact pl_B i hs.nB hs.z2
    · exact pl_B i ht.mB ht.z1
    · exact pl_B i ht.nB ht.z2
    · exact pl_B i hu.mB hu.z1
    · exact pl_B i hu.nB hu.z2
  have lk := look_ranges s t u s1 t1 u1 h1 h2 h3
  have P0 : fn_places_of [.tup [s.sc, t.sc, u.sc], .lst [s.en, t.en, u.en], .int 0] = _ := places_ok false s t u s3 t3 u3
  have P1 : fn_places_of [.tup [s.sc, t.sc, u.sc], .lst [s.en, t.en, u.en], .int 1] = _ := places_ok true s t u s3 t3 u3
  have S : ∀ (i : Bool) (z : Int), B 25 z → fn_stretch_to [.lst ((pls i s t u).map fr), .int z] = .ok (.tup [fr (byR z (lo6 (pl i s.M) (pls i s t u)) (hi6 (pl i s.M) (pls i s t u))), fr (whR z (lo6 (pl i s.M) (pls i s t u)) (hi6 (pl i s.M) (pls i s t u)))]) := fun i z hz => stretch_ok (pl i s.M) [pl i s.N, pl i t.M, pl i t.N, pl i u.M, pl i u.N] z hz (bpl i) (by show (5 : Nat) ≤ 100; decide)
  have lhB : ∀ i, BR 61 (lo6 (pl i s.M) (pls i s t u)) ∧ BR 61 (hi6 (pl i s.M) (pls i s t u)) := fun i => by
    have x0 := pl_B i hs.mB hs.z1
    constructor
    · rcases lo6_mem (pl i s.M) (pls i s t u) (pl i s.M) with h | h
      · rw [h]; exact x0
      · exact bpl i _ h
    · rcases hi6_mem (pl i s.M) (pls i s t u) (pl i s.M) with h | h
      · rw [h]; exact x0
      · exact bpl i _ h
  have S0 := S false wd bw
  have S1 := S true hg bg
  have B1 := byR_B bw (lhB false).1 (lhB false).2
  have B2 := whR_B bw (lhB false).1 (lhB false).2
  have B3 := byR_B bg (lhB true).1 (lhB true).2
  have B4 := whR_B bg (lhB true).1 (lhB true).2
  have N1 : byR wd (lo6 (pl false s.M) (pls false s t u)) (hi6 (pl false s.M) (pls false s t u)) ≠ 0 := byR_ne w0
  have N2 : byR hg (lo6 (pl true s.M) (pls true s t u)) (hi6 (pl true s.M) (pls true s t u)) ≠ 0 := byR_ne g0
  have memM : ∀ i, lo6 (pl i s.M) (pls i s t u) ∈ pls i s t u ∧ hi6 (pl i s.M) (pls i s t u) ∈ pls i s t u := fun i => by
    have x0 : pl i s.M ∈ pls i s t u := List.mem_cons_self
    constructor
    · rcases lo6_mem (pl i s.M) (pls i s t u) (pl i s.M) with h | h
      · rw [h]; exact x0
      · exact h
    · rcases hi6_mem (pl i s.M) (pls i s t u) (pl i s.M) with h | h
      · rw [h]; exact x0
      · exact h
  have leM : ∀ i, ∀ y ∈ pls i s t u, lo6 (pl i s.M) (pls i s t u) ≤ y ∧ y ≤ hi6 (pl i s.M) (pls i s t u) := fun i y hy => ⟨(lo6_le _ _).2 y hy, (hi6_le _ _).2 y hy⟩
  have R0 := fun (y : Rat) (h1 : lo6 (pl false s.M) (pls false s t u) ≤ y) (h2 : y ≤ hi6 (pl false s.M) (pls false s t u)) => byR_rng (w := wd) (show (0 : Int) ≤ wd by omega) h1 h2
  have R1 := fun (y : Rat) (h1 : lo6 (pl true s.M) (pls true s t u) ≤ y) (h2 : y ≤ hi6 (pl true s.M) (pls true s t u)) => byR_rng (w := hg) (show (0 : Int) ≤ hg by omega) h1 h2
  have L0 := byR_lo wd (lo6 (pl false s.M) (pls false s t u)) (hi6 (pl false s.M) (pls false s t u))
  have L1 := byR_lo hg (lo6 (pl true s.M) (pls true s t u)) (hi6 (pl true s.M) (pls true s t u))
  have U0 := byR_hi wd (lo6 (pl false s.M) (pls false s t u)) (hi6 (pl false s.M) (pls false s t u))
  have U1 := byR_hi hg (lo6 (pl true s.M) (pls true s t u)) (hi6 (pl true s.M) (pls true s t u))
  clear S lhB
  generalize byR wd (lo6 (pl false s.M) (pls false s t u)) (hi6 (pl false s.M) (pls false s t u)) = bx at *
  generalize whR wd (lo6 (pl false s.M) (pls false s t u)) (hi6 (pl false s.M) (pls false s t u)) = cx at *
  generalize byR hg (lo6 (pl true s.M) (pls true s t u)) (hi6 (pl true s.M) (pls true s t u)) = bY at *
  generalize whR hg (lo6 (pl true s.M) (pls true s t u)) (hi6 (pl true s.M) (pls true s t u)) = cY at *
  have ft := fit_abs _ _ _ _ wd hg bx cx bY cY lk P0 P1 S0 S1 B1 B2 B3 B4 N1 N2
  have hd := fitM_det (cx := cx) (cY := cY) N1 N2
  have hB := fitM_B B1 B2 B3 B4
  have W := fitM_W bx cx bY cY
  have PF : ∀ (i : Bool) (v : V3), v ≠ .o3 → v.z ≠ 0 → pl i ((fitM bx cx bY cY).nm.ld v) = (if i then bY else bx) * pl i v + (if i then cY else cx) ∧ ((fitM bx cx bY cY).nm.ld v).z ≠ 0 := fun i v v0 vz => by
    obtain ⟨a1, a2⟩ := pl_fit i bx cx bY cY v vz
    obtain ⟨b1, b2⟩ := nmM hd v v0 i
    exact ⟨by rw [b1, a1], b2 a2⟩
  have hd' := M3.det_nm hd
  have hB' := hB.nm
  generalize (fitM bx cx bY cY).nm = H at *
  have ck : Ckn 20 s.p s.q t.p t.q u.p u.q := ⟨⟨hs.c, hs.bp, hs.bq⟩, ⟨ht.c, ht.bp, ht.bq⟩, ⟨hu.c, hu.bp, hu.bq⟩, nl⟩
  have lc := led_chart_eq H hd' (hB'.mono (by decide)) (ck.mono (show 20 ≤ 2000 by decide))
  have fd := fitted_eq _ _ _ _ wd hg ft lc
  have q2 : fn_equation [chD s.p s.q t.p t.q u.p u.q] = _ := equation_k (ck.mono (show 20 ≤ 2600 by decide))
  have q1 := equation_k ((ck.led hd' hB').mono (show _ ≤ 2600 by decide))
  rw [eq_led ck hd'] at q1
  have bwI : ∀ i : Bool, B 25 (if i then hg else wd) := fun i => by cases i <;> assumption
  have rgI : ∀ (i : Bool) (y : Rat), lo6 (pl i s.M) (pls i s t u) ≤ y → y ≤ hi6 (pl i s.M) (pls i s t u) → 0 ≤ (if i then bY else bx) * y + (if i then cY else cx) ∧ (if i then bY else bx) * y + (if i then cY else cx) ≤ ((if i then hg else wd : Int) : Rat) := fun i y h1 h2 => by
    cases i
    · exact R0 y h1 h2
    · exact R1 y h1 h2
  have mem : ∀ i : Bool, pl i s.M ∈ pls i s t u ∧ pl i s.N ∈ pls i s t u ∧ pl i t.M ∈ pls i s t u ∧ pl i t.N ∈ pls i s t u ∧ pl i u.M ∈ pls i s t u ∧ pl i u.N ∈ pls i s t u := fun i => by
    unfold pls
    simp
  have SO := fun (x : SE) (hx : SE.Ok 20 x) (hp : 0 < x.M.z * x.N.z) hm (F : D) (j : Int) iF iR => scale_ok hd' hB' x hx hp (fun i y => (if i then bY else bx) * y + (if i then cY else cx)) (fun i => if i then hg else wd) (fun i => lo6 (pl i s.M) (pls i s t u)) (fun i => hi6 (pl i s.M) (pls i s t u)) bwI PF rgI hm ds hds dl (.tup [s.sc, t.sc, u.sc]) (.lst [s.en, t.en, u.en]) F j iF iR
  obtain ⟨m1, m2, ⟨z1, b1, p1⟩, ⟨z2, b2, p2⟩, T1⟩ := SO s hs h1 (fun i => ⟨leM i _ (mem i).1, leM i _ (mem i).2.1⟩) (chD (ls1 H s.p s.q) (ls2 H s.p s.q) (ls1 H t.p t.q) (ls2 H t.p t.q) (ls1 H u.p u.q) (ls2 H u.p u.q)) 0 rfl rfl
  obtain ⟨m3, m4, ⟨z3, b3, p3⟩, ⟨z4, b4, p4⟩, T2⟩ := SO t ht h2 (fun i => ⟨leM i _ (mem i).2.2.1, leM i _ (mem i).2.2.2.1⟩) (chD (ls1 H s.p s.q) (ls2 H s.p s.q) (ls1 H t.p t.q) (ls2 H t.p t.q) (ls1 H u.p u.q) (ls2 H u.p u.q)) 1 rfl rfl
  obtain ⟨m5, m6, ⟨z5, b5, p5⟩, ⟨z6, b6, p6⟩, T3⟩ := SO u hu h3 (fun i => ⟨leM i _ (mem i).2.2.2.2.1, leM i _ (mem i).2.2.2.2.2⟩) (chD (ls1 H s.p s.q) (ls2 H s.p s.q) (ls1 H t.p t.q) (ls2 H t.p t.q) (ls1 H u.p u.q) (ls2 H u.p u.q)) 2 rfl rfl
  have MP : ∀ i : Bool, [m1, m2, m3, m4, m5, m6].map (pl i) = (pls i s t u).map fun y => (if i then bY else bx) * y + (if i then cY else cx) := fun i => by
    unfold pls
    simp only [List.map_cons, List.map_nil, p1, p2, p3, p4, p5, p6]
  have hm6 : ∀ v ∈ [m1, m2, m3, m4, m5, m6], v.z ≠ 0 ∧ V3.BV 3000 v := fun v hv => by
    simp only [List.mem_cons, List.not_mem_nil, or_false] at hv
    rcases hv with rfl | rfl | rfl | rfl | rfl | rfl
    · exact ⟨by omega, b1.mono (by decide)⟩
    · exact ⟨by omega, b2.mono (by decide)⟩
    · exact ⟨by omega, b3.mono (by decide)⟩
    · exact ⟨by omega, b4.mono (by decide)⟩
    · exact ⟨by omega, b5.mono (by decide)⟩
    · exact ⟨by omega, b6.mono (by decide)⟩
  have O1 := borders_ok false wd [m1, m2, m3, m4, m5, m6] hm6 (by show (6 : Nat) ≤ 1000; decide) (border_fact _ false _ (MP false) (memM false).1 (memM false).2 (leM false) L0 U0)
  have O2 := borders_ok true hg [m1, m2, m3, m4, m5, m6] hm6 (by show (6 : Nat) ≤ 1000; decide) (border_fact _ true _ (MP true) (memM true).1 (memM true).2 (leM true) L1 U1)
  exact good_abs _ _ _ ds wd hg _ m1 m2 m3 m4 m5 m6 .non .non .non .non .non .non .non .non .non fd q1 q2 (by rw [shp_t]; exact shps_ints) T1 T2 T3 O1 O2
/-! a turn of the law -/
theorem turn_abs (L C R X W : D) (k d6 d7 : Int) (ch : fn__law_chart [L, .int k] = .ok C) (rg : fn__law_ranges [L, .int (k + 1)] = .ok R) (dr : fn__law_draws [L, .int (k + 1)] = .ok X)
    (i6 : idxD X (.int 6) = some (.int d6)) (i7 : idxD X (.int 7) = some (.int d7)) (b6 : B 10 d6) (b7 : B 10 d7) (bk : B 10 k)
    (wh : fn__law_which [C, R] = .ok W) (g : (W = .non ∧ fn__law_good [C, R, X, .int (1 + d6), .int (1 + d7)] = .ok (.bl true)) ∨ ∃ j : Int, W = .int j) :
    finK [1, 2, 3, 4] (lb1_law [.va L, .va (.int k), .no, .no, .no]) = some [.va L, .no, .no, .no, .no] := by
  rcases g with ⟨rfl, g⟩ | ⟨j, rfl⟩
  · simp_arith [lb1_law, ch, rg, dr, i6, i7, wh, g, finK_nx]
  · simp_arith [lb1_law, ch, rg, dr, i6, i7, wh, finK_nx]
theorem turn_ok (ns : List Int) (k : Int) (h0 : 0 ≤ k) (h1 : k < 90) : finK [1, 2, 3, 4] (lb1_law [.va (.lst (ns.map D.int)), .va (.int k), .no, .no, .no]) = some [.va (.lst (ns.map D.int)), .no, .no, .no, .no] := by
  obtain ⟨p1, q1, p2, q2, p3, q3, ch, ck, _, _, _⟩ := lchart_ex ns k h0 (by omega)
  obtain ⟨a, b, c, d, e, f, rg, r1, r2, r3⟩ := ranges_ex ns (k + 1) (by omega) (by omega)
  obtain ⟨v, dr⟩ := draws_ex ns (k + 1) (by omega) (by omega)
  unfold dgs at dr
  have G : ∀ z : Int, 0 ≤ z % 1000 ∧ z % 1000 < 1000 := fun z => ⟨Int.emod_nonneg _ (by decide), Int.emod_lt_of_pos _ (by decide)⟩
  have g0 := G v
  have g1 := G (v / 1000)
  have g2 := G (v / 1000 / 1000)
  have g3 := G (v / 1000 / 1000 / 1000)
  have g4 := G (v / 1000 / 1000 / 1000 / 1000)
  have g5 := G (v / 1000 / 1000 / 1000 / 1000 / 1000)
  have g6 := G (v / 1000 / 1000 / 1000 / 1000 / 1000 / 1000)
  have g7 := G (v / 1000 / 1000 / 1000 / 1000 / 1000 / 1000 / 1000)
  generalize v / 1000 / 1000 / 1000 / 1000 / 1000 / 1000 / 1000 % 1000 = d7 at dr g7
  generalize v / 1000 / 1000 / 1000 / 1000 / 1000 / 1000 % 1000 = d6 at dr g6
  generalize v / 1000 / 1000 / 1000 / 1000 / 1000 % 1000 = d5 at dr g5
  generalize v / 1000 / 1000 / 1000 / 1000 % 1000 = d4 at dr g4
  generalize v / 1000 / 1000 / 1000 % 1000 = d3 at dr g3
  generalize v / 1000 / 1000 % 1000 = d2 at dr g2
  generalize v / 1000 % 1000 = d1 at dr g1
  generalize v % 1000 = d0 at dr g0
  have b6 : B 10 d6 := B.le 1000 (by omega) (by omega) (by decide)
  have b7 : B 10 d7 := B.le 1000 (by omega) (by omega) (by decide)
  have kB : B 10 k := B.le 100 (by omega) (by omega) (by decide)
  have M : ∀ {x : V3}, V3.BV 20 x → V3.BV 900 x := fun h => h.mono (by decide)
  obtain ⟨k1, k2, k3, nl⟩ := ck
  rcases which_d ⟨p1, q1, a, b⟩ ⟨p2, q2, c, d⟩ ⟨p3, q3, e, f⟩ ⟨M k1.2.1, M k1.2.2⟩ ⟨M k2.2.1, M k2.2.2⟩ ⟨M k3.2.1, M k3.2.2⟩ r1 r2 r3 with ⟨wh, z1, z2, z3⟩ | ⟨j, wh⟩
  · have nz : ∀ {x y : Int}, 0 < x * y → x ≠ 0 ∧ y ≠ 0 := fun h => ⟨fun e => by rw [e, Int.zero_mul] at h; omega, fun e => by rw [e, Int.mul_zero] at h; omega⟩
    have g : fn__law_good [_, _, .lst [.int d0, .int d1, .int d2, .int d3, .int d4, .int d5, .int d6, .int d7], .int (1 + d6), .int (1 + d7)] = _ := good_ok ⟨p1, q1, a, b⟩ ⟨p2, q2, c, d⟩ ⟨p3, q3, e, f⟩ ⟨k1.1, k1.2.1, k1.2.2, r1.1, r1.2, (nz z1).1, (nz z1).2⟩ ⟨k2.1, k2.2.1, k2.2.2, r2.1, r2.2, (nz z2).1, (nz z2).2⟩ ⟨k3.1, k3.2.1, k3.2.2, r3.1, r3.2, (nz z3).1, (nz z3).2⟩ z1 z2 z3 nl [d0, d1, d2, d3, d4, d5, d6, d7] (fun n hn => by
      simp only [List.mem_cons, List.not_mem_nil, or_false] at hn
      rcases hn with rfl | rfl | rfl | rfl | rfl | rfl | rfl | rfl <;> assumption) (by show (8 : Nat) ≤ 100; decide) (1 + d6) (1 + d7) (by omega) (by omega) (B.le 1001 (by omega) (by omega) (by decide)) (B.le 1001 (by omega) (by omega) (by decide))
    exact turn_abs _ _ _ _ _ k d6 d7 ch rg dr rfl rfl b6 b7 kB wh (.inl ⟨rfl, g⟩)
  · exact turn_abs _ _ _ _ _ k d6 d7 ch rg dr rfl rfl b6 b7 kB wh (.inr ⟨j, rfl⟩)
theorem law_pure (ns : List Int) (hl : ns.length ≤ 63) : fn_law [.lst (ns.map D.int)] = .ok (.bl true) := by
  rw [fn_law_eq]
  simp_arith [sh_law, sFor_, kFor_ok]
  obtain ⟨h, eh, h0, h1⟩ : ∃ h : Int, (if (2 : Int) < (if 30 < (ns.length : Int) then 30 else (ns.length : Int)) then (if 30 < (ns.length : Int) then 30 else (ns.length : Int)) else 2) = h ∧ 2 ≤ h ∧ h ≤ 30 := by
    refine ⟨_, rfl, ?_, ?_⟩ <;> split <;> split <;> omega
  obtain ⟨m, rfl⟩ := Int.eq_ofNat_of_zero_le (show 0 ≤ h by omega)
  have sz : Builtin.Range.rangeSize 1 (m : Int) 2 ≤ 20 := by
    unfold Builtin.Range.rangeSize
    rw [if_pos (by decide), if_pos (by omega)]
    omega
  rw [eh, rng3L_i (rg_ok' ⟨m, by omega⟩), lsO_s, kFor_ok]
  generalize (Builtin.Range.rangeSize 1 (m : Int) 2) = sz' at *
  have fg : fgt [1, 2, 3, 4] [.va (.lst (ns.map D.int)), .no, .no, .no, .no] = [.va (.lst (ns.map D.int)), .no, .no, .no, .no] := by simp_arith []
  rw [fg, forF_fin]
  · simp_arith []
  · intro d hd
    obtain ⟨t, t0, t1, rfl⟩ := mem_rngC hd
    exact ⟨_, rfl, turn_ok ns _ (by omega) (by omega)⟩

end My
open PySem PySem.W PyProof.Rows in
set_option maxRecDepth 100000 in
set_option maxHeartbeats 0 in
theorem PySem.Challenge.cw_threadchart_k51_whole_marks_on_the_sheet_holds : PySem.Challenge.rw_threadchart_k51_whole_marks_on_the_sheet.Holds := by
  w_on; o_law; k_head; (case hw => w_witness2)
  k_fill
  refine L2.walk_of (l := PySem.Challenge.rw_threadchart_k51_whole_marks_on_the_sheet) (n := 63) (k := 57) (x := "_law_script") (CX := fun w => L2N.CX PySem.Challenge.rw_threadchart_k51_whole_marks_on_the_sheet.prog w) (sp := fun w => Z.spD _ (Z.ctOf _) 1 My.fn_law) rfl (by decide) rfl ⟨rfl, by decide, by decide⟩ (fun w h Y => by first | exact PySem.W.kIn_of Y | exact PySem.W.km_in_of Y) ?F (fun _ _ a ns hl _ hS => Z.law_sp hS (My.law_pure ns hl)) (fun w H s e s' h => Z.cx_false h)
  case F =>
    intro w mg fa h KX G hmg
    obtain ⟨fd, hb, hF⟩ := My.all_mk (P := PySem.Challenge.rw_threadchart_k51_whole_marks_on_the_sheet.prog) (w := w) KX G hmg (by k_is) (by k_is) (by k_is) (by k_is) (by k_is) (by k_is) (by k_is) (by k_is) (by k_is) (by k_is) (by k_is) (by k_is) (by k_is) (by k_is) (by k_is) (by k_is) (by k_is) (by k_is) (by k_is) (by k_is) (by k_is) (by k_is) (by k_is) (by k_is) (by k_is) (by k_is) (by k_is) (by k_is) (by k_is) (by k_is) (by k_is) (by k_is) (by k_is) (by k_is) (by k_is) (by k_is) (by k_is) (by k_is) (by k_is) (by k_is) (by k_is) (by k_is) (by k_is) (by k_is) (by k_is) (by k_is) (by k_is) (by k_is) (by k_is) (by k_is) (by k_is) (by k_is) (by k_is) (by k_is) (by k_is) (by k_is) (by k_is) (by k_is) (by k_is) (by k_is) (by k_is) (by k_is) (by k_is) (by k_is) (by k_is) (by k_is) (by k_is) (by k_is) (by k_is) (by k_is) (by k_is) (by k_is) (by k_is) (by k_is) (by k_is) (by k_is) (by k_is) (by k_is) (by k_is) (by k_is) (by k_is) (by k_is) (by k_is) (by k_is) (by k_is) (by k_is) (by k_is) (by k_is) (by k_is) (by k_is) (by k_is) (by k_is) (by k_is) (by k_is) (by k_is) (by k_is) (by k_is) (by k_is) (by k_is) (by k_is) (by k_is) (by k_is) (by k_is) (by k_is) (by k_is) (by k_is) (by k_is) (by k_is) (by k_is) (by k_is) (by k_is) (by k_is) (by k_is) (by k_is) (by k_is) (by k_is) (by k_is) (by k_is) (by k_is) (by k_is) (by k_is) (by k_is) (by k_is) (by k_is) (by k_is) (by k_is) (by k_is) (by k_is) (by k_is) (by k_is) (by k_is) (by k_is) (by k_is) (by k_is) (by k_is) (by k_is) (by k_is) (by k_is) (by k_is) (by k_is) (by k_is) (by k_is) (by k_is) (by k_is) (by k_is) (by k_is) (by k_is) (by k_is) (by k_is) (by k_is) (by k_is) (by k_is) (by k_is) (by k_is) (by k_is) (by k_is) (by k_is) (by k_is) (by k_is) (by k_is) (by k_is) (by k_is) (by k_is) (by k_is) (by k_is) (by k_is) (by k_is) (by k_is) (by k_is) (by k_is) (by k_is) (by k_is) (by k_is) (by k_is) (by k_is) (by k_is) (by k_is) (by k_is) (by k_is) (by k_is) (by k_is) (by k_is) (by k_is) (by k_is) (by k_is) (by k_is) (by k_is) (by k_is) (by k_is) (by k_is) (by k_is) (by k_is) (by k_is) (by k_is) (by k_is) (by k_is) (by k_is) (by k_is) (by k_is) (by k_is) (by k_is) (by k_is) (by k_is) (by k_is) (by k_is) (by k_is) (by k_is) (by k_is) (by k_is) (by k_is) (by k_is) (by k_is) (by k_is) (by k_is) (by k_is) (by k_is) (by k_is) (by k_is) (by k_is) (by k_is) (by k_is) (by k_is) (by k_is) (by k_is) (by k_is) (by k_is) (by k_is) (by k_is) (by k_is) (by k_is) (by k_is) (by k_is) (by k_is) (by k_is) (by k_is) (by k_is) (by k_is) (by k_is) (by k_is) (by k_is) (by kernel_rfl)
    exact ⟨fd, hb, hF⟩
