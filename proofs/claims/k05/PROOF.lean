import PyProof.Rows.All
import Wide.All
import OpenK.AllK
import Wide.FinOn
import HandS.ForMost
import HandS.ForExc
import HandS.Evl
import HandS.Wide
import HandS.Slots
import HandS.SlotsOwn
import HandS.Defaults
import HandS.ExcInit
import HandS.IsInst
import HandS.ExcCtx
import HandS.HotCalls
import HandS.ExcInitHot
import HandS.ExcIs
import HandS.ExcField
import PySem.Challenge.RW_evenpen_k05_whole_one_cell_of_each_value
set_option Elab.async false
set_option linter.all false
set_option maxRecDepth 100000
set_option maxHeartbeats 4000000
namespace Fw
open PySem L2

/-! ### data without a heap -/
inductive D where
  | non | bl (b : Bool) | int (i : Int) | str (x : Str)
  | tup (xs : List D) | lst (xs : List D) | pt (x y o : Int) | obj (c : Nat) (fs : List (Str × D))

/-- what stands where: the written part, the class of points with its slots' places, the other classes, the error classes -/
structure Sg where
  K : PySem.W.Frag
  cP : Addr
  iX : Nat
  iY : Nat
  iO : Nat
  cO : Nat → Addr
  cX : Nat → Addr

mutual
inductive Rep (S : Sg) (H : Hp) : V → D → Prop
  | non : Rep S H .non .non
  | bl (b : Bool) : Rep S H (.bl b) (.bl b)
  | int (i : Int) : Rep S H (.int i) (.int i)
  | str (x : Str) : Rep S H (.str x) (.str x)
  | tup {a : Addr} {vs : List V} {ds : List D} (h : SqT S.K H a vs) (r : Reps S H vs ds) : Rep S H (.ref a) (.tup ds)
  | lst {a : Addr} {vs : List V} {ds : List D} (h : SqL S.K H a vs) (r : Reps S H vs ds) : Rep S H (.ref a) (.lst ds)
  | pt {a dx : Addr} {vs : List (Option V)} {x y o : Int} (h : SlX.Slt H a S.cP dx vs) (hx : vs[S.iX]? = some (some (.int x))) (hy : vs[S.iY]? = some (some (.int y))) (ho : vs[S.iO]? = some (some (.int o))) : Rep S H (.ref a) (.pt x y o)
  | obj {a dx : Addr} {c : Nat} {fs : List (Str × V)} {gs : List (Str × D)} (h : H a = some (.ins (S.cO c) dx fs)) (r : RepF S H fs gs) : Rep S H (.ref a) (.obj c gs)
inductive Reps (S : Sg) (H : Hp) : List V → List D → Prop
  | nil : Reps S H [] []
  | cons {v : V} {d : D} {vs : List V} {ds : List D} (h : Rep S H v d) (t : Reps S H vs ds) : Reps S H (v :: vs) (d :: ds)
inductive RepF (S : Sg) (H : Hp) : List (Str × V) → List (Str × D) → Prop
  | nil : RepF S H [] []
  | cons {f : Str} {v : V} {d : D} {vs : List (Str × V)} {ds : List (Str × D)} (h : Rep S H v d) (t : RepF S H vs ds) : RepF S H ((f, v) :: vs) ((f, d) :: ds)
end

theorem slt_mono {H H' : Hp} (e : Same H H') {a C dx : Addr} {vs : List (Option V)} (h : SlX.Slt H a C dx vs) : SlX.Slt H' a C dx vs := by
  rcases h with ⟨h1, h2⟩ | ⟨h1, h2⟩
  · exact .inl ⟨e _ _ h1, h2⟩
  · exact .inr ⟨e _ _ h1, e _ _ h2⟩

mutual
theorem Rep.mono {S : Sg} {H H' : Hp} (e : Same H H') : ∀ {v : V} {d : D}, Rep S H v d → Rep S H' v d
  | _, _, .non => .non
  | _, _, .bl b => .bl b
  | _, _, .int i => .int i
  | _, _, .str x => .str x
  | _, _, .tup h r => .tup (Evl.ex_t e h) (Reps.mono e r)
  | _, _, .lst h r => .lst (Evl.ex_l e h) (Reps.mono e r)
  | _, _, .pt h hx hy ho => .pt (slt_mono e h) hx hy ho
  | _, _, .obj h r => .obj (e _ _ h) (RepF.mono e r)
theorem Reps.mono {S : Sg} {H H' : Hp} (e : Same H H') : ∀ {v : List V} {d : List D}, Reps S H v d → Reps S H' v d
  | _, _, .nil => .nil
  | _, _, .cons h t => .cons (Rep.mono e h) (Reps.mono e t)
theorem RepF.mono {S : Sg} {H H' : Hp} (e : Same H H') : ∀ {v : List (Str × V)} {d : List (Str × D)}, RepF S H v d → RepF S H' v d
  | _, _, .nil => .nil
  | _, _, .cons h t => .cons (Rep.mono e h) (RepF.mono e t)
end

section
variable {S : Sg} {H H' : Hp} {vs : List V} {ds : List D}
theorem Reps.length : ∀ {vs : List V} {ds : List D}, Reps S H vs ds → vs.length = ds.length
  | _, _, .nil => rfl
  | _, _, .cons _ t => congrArg Nat.succ (Reps.length t)
theorem Reps.get : ∀ {vs : List V} {ds : List D} {i : Nat} {d : D}, Reps S H vs ds → ds[i]? = some d → ∃ v, vs[i]? = some v ∧ Rep S H v d
  | _, _, i, d, .nil, e => by simp at e
  | _, _, 0, d, .cons h _, e => by
    simp at e
    subst e
    exact ⟨_, rfl, h⟩
  | _, _, i + 1, d, .cons _ t, e => by
    obtain ⟨v, e1, r⟩ := Reps.get (i := i) (d := d) t (by simpa using e)
    exact ⟨v, by simpa using e1, r⟩
theorem Reps.getV : ∀ {vs : List V} {ds : List D} {i : Nat} {v : V}, Reps S H vs ds → vs[i]? = some v → ∃ d, ds[i]? = some d ∧ Rep S H v d
  | _, _, i, d, .nil, e => by simp at e
  | _, _, 0, d, .cons h _, e => by
    simp at e
    subst e
    exact ⟨_, rfl, h⟩
  | _, _, i + 1, d, .cons _ t, e => by
    obtain ⟨v, e1, r⟩ := Reps.getV (i := i) (v := d) t (by simpa using e)
    exact ⟨v, by simpa using e1, r⟩
theorem Reps.append : ∀ {vs : List V} {ds : List D} {ws : List V} {es : List D}, Reps S H vs ds → Reps S H ws es → Reps S H (vs ++ ws) (ds ++ es)
  | _, _, _, _, .nil, s => s
  | _, _, _, _, .cons h t, s => .cons h (Reps.append t s)
theorem Reps.take : ∀ {vs : List V} {ds : List D} (n : Nat), Reps S H vs ds → Reps S H (vs.take n) (ds.take n)
  | _, _, 0, _ => .nil
  | _, _, _ + 1, .nil => .nil
  | _, _, n + 1, .cons h t => .cons h (Reps.take n t)
theorem Reps.drop : ∀ {vs : List V} {ds : List D} (n : Nat), Reps S H vs ds → Reps S H (vs.drop n) (ds.drop n)
  | _, _, 0, h => h
  | _, _, _ + 1, .nil => .nil
  | _, _, n + 1, .cons h t => Reps.drop n t
theorem Reps.ints : ∀ {ns : List Int} {vs : List V}, Reps S H vs (ns.map D.int) → vs = ns.map V.int
  | [], _, .nil => rfl
  | n :: ns, _, .cons (.int _) t => by rw [Reps.ints t]; rfl
theorem Reps.of_ints : ∀ (ns : List Int), Reps S H (ns.map V.int) (ns.map D.int)
  | [] => .nil
  | n :: ns => .cons (.int n) (Reps.of_ints ns)
end

/-! ### hidden addresses -/
def hid (M : List Addr) (H : Hp) : Hp := fun a => if a ∈ M then none else H a
section
variable {S : Sg} {H H' : Hp} {M M' : List Addr} {a p : Addr} {o : HO} {v : V} {d : D}
theorem hid_some (h : hid M H a = some o) : a ∉ M ∧ H a = some o := by
  unfold hid at h
  by_cases e : a ∈ M
  · rw [if_pos e] at h; cases h
  · rw [if_neg e] at h; exact ⟨e, h⟩
theorem hid_of (hm : a ∉ M) (h : H a = some o) : hid M H a = some o := by
  unfold hid
  rw [if_neg hm]
  exact h
theorem hid_same (e : Same H H') : Same (hid M H) (hid M H') := fun b o h => by
  obtain ⟨h1, h2⟩ := hid_some h
  exact hid_of h1 (e _ _ h2)
theorem hid_le : Same (hid M H) H := fun b o h => (hid_some h).2
/-- fewer hidden: more is seen -/
theorem hid_sub (h : ∀ b ∈ M', b ∈ M) : Same (hid M H) (hid M' H) := fun b o e => by
  obtain ⟨h1, h2⟩ := hid_some e
  exact hid_of (fun z => h1 (h b z)) h2
/-- hiding an address that holds nothing -/
theorem hid_new (hp : H p = none) : Same (hid M H) (hid (p :: M) H) := fun b o e => by
  obtain ⟨h1, h2⟩ := hid_some e
  refine hid_of (fun z => ?_) h2
  rcases List.mem_cons.mp z with z | z
  · rw [z, hp] at h2; cases h2
  · exact h1 z
theorem same_upd (hp : H p = none) : Same H (upd H p o) := fun b u e => by
  rw [upd_ne (ne_of_none e hp)]
  exact e
/-- an object that is hidden may change -/
theorem hid_upd (hp : p ∈ M) : hid M (upd H p o) = hid M H := by
  funext b
  unfold hid
  by_cases e : b ∈ M
  · rw [if_pos e, if_pos e]
  · rw [if_neg e, if_neg e, upd_ne (fun z => e (by rw [z]; exact hp))]
end

/-! ### the state of a body -/
/-- a slot of a body: unknown, a value, a list of one's own, an instance of one's own (at a, its dict at dx), an instance with slots that is being made -/
inductive Sl where
  | no | v (d : D) | own (ds : List D) | ob (a dx : Addr) (c : Nat) (fs : List (Str × D)) | pi (a dx : Addr) (vs : List (Option V)) | exc (a dd : Addr) (c : Nat) (fs : List (Str × D))
abbrev En := List Sl
def Sl.mine : Sl → Bool
  | .no => false
  | .v _ => false
  | .exc _ _ _ _ => false
  | _ => true

/-- the entry: its heap, what is hidden from it; what it keeps besides its slots -/
structure Bs where
  H0 : Hp
  M0 : List Addr
  G : Hp → Prop
  gm : ∀ H H', Same H H' → G H → G H'

/-- a slot: an address that is one's own is hidden from all else -/
def RS (S : Sg) (B : Bs) (M : List Addr) (H : Hp) : Sl → Option V → Prop
  | .no, _ => True
  | .v d, o => ∃ v, o = some v ∧ Rep S (hid M H) v d
  | .own ds, o => ∃ l vs, o = some (.ref l) ∧ l ∈ M ∧ l ∉ B.M0 ∧ B.H0 l = none ∧ H l = some (.lst vs) ∧ Reps S (hid M H) vs ds
  | .ob a dx c fs, o => o = some (.ref a) ∧ a ∈ M ∧ B.H0 a = none ∧ ∃ ws, H a = some (.ins (S.cO c) dx ws) ∧ RepF S (hid M H) ws fs
  | .pi a dx vs, o => o = some (.ref a) ∧ a ∈ M ∧ dx ∈ M ∧ B.H0 a = none ∧ B.H0 dx = none ∧ dx ≠ a ∧ SlX.Slt H a S.cP dx vs ∧ (H dx = some (.own a) ∨ H dx = some (.xd []))
  | .exc a dd c fs, o => o = some (.ref a) ∧ ∃ ws, H dd = some (.xd ws) ∧ RepF S (hid M H) ws fs

structure Stt (S : Sg) (B : Bs) (M : List Addr) (g : En) (t : L2.St) (H : Hp) : Prop where
  same : Same B.H0 H
  sub : ∀ a ∈ B.M0, a ∈ M
  new : ∀ a ∈ M, a ∈ B.M0 ∨ B.H0 a = none
  trk : ∀ a ∈ M, H a ≠ none
  sl : ∀ (i : Nat) (s : Sl), g[i]? = some s → ∃ o, t[i]? = some o ∧ RS S B M H s o
  gh : B.G (hid M H)
  apart : ∀ (i j : Nat) (s u : Sl) (v : V), i ≠ j → g[i]? = some s → g[j]? = some u → s.mine = true → u.mine = true → t[i]? = some (some v) → t[j]? = some (some v) → False

section
variable {S : Sg} {B : Bs} {M : List Addr} {g : En} {t : L2.St} {H H' : Hp}
theorem RS.mono (e : Same H H') : ∀ {s : Sl} {o : Option V}, RS S B M H s o → RS S B M H' s o
  | .no, _, _ => True.intro
  | .v d, o, ⟨v, e1, r⟩ => ⟨v, e1, r.mono (hid_same e)⟩
  | .own ds, o, ⟨l, vs, e1, m, m0, h0, hl, r⟩ => ⟨l, vs, e1, m, m0, h0, e _ _ hl, r.mono (hid_same e)⟩
  | .ob a dx c fs, o, ⟨e1, m, h0, ws, hl, r⟩ => ⟨e1, m, h0, ws, e _ _ hl, r.mono (hid_same e)⟩
  | .pi a dx vs, o, ⟨e1, m, m2, h0, h1, ne, hs, hd⟩ => ⟨e1, m, m2, h0, h1, ne, slt_mono e hs, hd.elim (fun z => .inl (e _ _ z)) fun z => .inr (e _ _ z)⟩
  | .exc a dd c fs, o, ⟨e1, ws, hd, r⟩ => ⟨e1, ws, e _ _ hd, r.mono (hid_same e)⟩
theorem Stt.mono (e : Same H H') (h : Stt S B M g t H) : Stt S B M g t H' where
  same := h.same.trans e
  sub := h.sub
  new := h.new
  trk := fun a ha z => by
    cases q : H a with
    | none => exact h.trk a ha q
    | some o => rw [e _ _ q] at z; cases z
  sl := fun i s hi => let ⟨o, ho, r⟩ := h.sl i s hi; ⟨o, ho, r.mono e⟩
  gh := B.gm _ _ (hid_same e) h.gh
  apart := h.apart
theorem Stt.nm (h : Stt S B M g t H) {p : Addr} (hp : H p = none) : p ∉ M := fun z => h.trk p z hp
theorem Stt.var (h : Stt S B M g t H) {i : Nat} {d : D} (hi : g[i]? = some (.v d)) : ∃ v, t[i]? = some (some v) ∧ Rep S (hid M H) v d := by
  obtain ⟨o, ho, v, e, r⟩ := h.sl i _ hi
  exact ⟨v, by rw [ho, e], r⟩
theorem set_get {α : Type} {l : List α} {i : Nat} {a b : α} (h : (l.set i a)[i]? = some b) : a = b ∧ i < l.length := by
  have hl : i < (l.set i a).length := (List.getElem?_eq_some_iff.mp h).1
  rw [List.length_set] at hl
  rw [List.getElem?_set_self hl] at h
  exact ⟨Option.some.inj h, hl⟩
theorem Stt.tlen (h : Stt S B M g t H) {i : Nat} (hi : i < g.length) : i < t.length := by
  obtain ⟨o, ho, _⟩ := h.sl i _ (List.getElem?_eq_getElem hi)
  exact (List.getElem?_eq_some_iff.mp ho).1
/-- a slot takes a value -/
theorem Stt.set (h : Stt S B M g t H) (i : Nat) {v : V} {d : D} (r : Rep S (hid M H) v d) : Stt S B M (g.set i (.v d)) (t.set i (some v)) H where
  same := h.same
  sub := h.sub
  new := h.new
  trk := h.trk
  sl := fun j s hj => by
    by_cases e : i = j
    · subst e
      obtain ⟨hs, hl⟩ := set_get hj
      subst hs
      exact ⟨some v, List.getElem?_set_self (h.tlen hl), v, rfl, r⟩
    · rw [List.getElem?_set_ne e] at hj ⊢
      exact h.sl j s hj
  gh := h.gh
  apart := fun j k s u w hjk h1 h2 m1 m2 e1 e2 => by
    have n1 : i ≠ j := fun e => by
      subst e
      obtain ⟨hs, _⟩ := set_get h1
      subst hs
      cases m1
    have n2 : i ≠ k := fun e => by
      subst e
      obtain ⟨hs, _⟩ := set_get h2
      subst hs
      cases m2
    rw [List.getElem?_set_ne n1] at h1 e1
    rw [List.getElem?_set_ne n2] at h2 e2
    exact h.apart j k s u w hjk h1 h2 m1 m2 e1 e2
theorem RS.hide {p : Addr} (hp : H p = none) : ∀ {s : Sl} {o : Option V}, RS S B M H s o → RS S B (p :: M) H s o
  | .no, _, _ => True.intro
  | .v d, o, ⟨v, e1, r⟩ => ⟨v, e1, r.mono (hid_new hp)⟩
  | .own ds, o, ⟨l, vs, e1, m, m0, h0, hl, r⟩ => ⟨l, vs, e1, List.mem_cons_of_mem _ m, m0, h0, hl, r.mono (hid_new hp)⟩
  | .ob a dx c fs, o, ⟨e1, m, h0, ws, hl, r⟩ => ⟨e1, List.mem_cons_of_mem _ m, h0, ws, hl, r.mono (hid_new hp)⟩
  | .pi a dx vs, o, ⟨e1, m, m2, h0, h1, ne, hs, hd⟩ => ⟨e1, List.mem_cons_of_mem _ m, List.mem_cons_of_mem _ m2, h0, h1, ne, hs, hd⟩
  | .exc a dd c fs, o, ⟨e1, ws, hd, r⟩ => ⟨e1, ws, hd, r.mono (hid_new hp)⟩
/-- the address of a thing of one's own -/
theorem RS.addr : ∀ {s : Sl} {o : Option V}, RS S B M H s o → s.mine = true → ∃ a, o = some (.ref a) ∧ a ∈ M
  | .exc a dd c fs, o, _, z => by cases z
  | .no, _, _, z => by cases z
  | .v d, o, _, z => by cases z
  | .own ds, o, ⟨l, vs, e1, m, _⟩, _ => ⟨l, e1, m⟩
  | .ob a dx c fs, o, ⟨e1, m, _⟩, _ => ⟨a, e1, m⟩
  | .pi a dx vs, o, ⟨e1, m, _⟩, _ => ⟨a, e1, m⟩
/-- a slot takes a new thing, which is one's own from now on -/
theorem Stt.setNew (h : Stt S B M g t H) (i : Nat) {p : Addr} {s' : Sl} (hp : H p = none) (e : Same H H') (hl : H' p ≠ none) (r : RS S B (p :: M) H' s' (some (.ref p))) : Stt S B (p :: M) (g.set i s') (t.set i (some (.ref p))) H' where
  same := h.same.trans e
  sub := fun a ha => List.mem_cons_of_mem _ (h.sub a ha)
  new := fun a ha => by
    rcases List.mem_cons.mp ha with z | z
    · exact .inr (by rw [z]; exact h.same.free hp)
    · exact h.new a z
  trk := fun a ha => by
    rcases List.mem_cons.mp ha with z | z
    · rw [z]; exact hl
    · exact (h.mono e).trk a z
  sl := fun j s hj => by
    by_cases q : i = j
    · subst q
      obtain ⟨q, hi⟩ := set_get hj
      subst q
      exact ⟨_, List.getElem?_set_self (h.tlen hi), r⟩
    · rw [List.getElem?_set_ne q] at hj ⊢
      obtain ⟨o, ho, rr⟩ := h.sl j s hj
      exact ⟨o, ho, (rr.hide hp).mono e⟩
  gh := B.gm _ _ (fun a o z => hid_same e a o (hid_new hp a o z)) h.gh
  apart := fun j k s u w hjk h1 h2 m1 m2 e1 e2 => by
    have key : ∀ {n : Nat} {u : Sl}, g[n]? = some u → u.mine = true → t[n]? = some (some (.ref p)) → False := fun {n u} q1 q2 q3 => by
      obtain ⟨o, ho, rr⟩ := h.sl n _ q1
      obtain ⟨a, ea, hm⟩ := rr.addr q2
      rw [q3, ea] at ho
      cases ho
      exact h.nm hp hm
    by_cases n1 : i = j
    · subst n1
      obtain ⟨_, hi⟩ := set_get h1
      rw [List.getElem?_set_self (h.tlen hi)] at e1
      cases e1
      rw [List.getElem?_set_ne hjk] at h2 e2
      exact key h2 m2 e2
    · rw [List.getElem?_set_ne n1] at h1 e1
      by_cases n2 : i = k
      · subst n2
        obtain ⟨_, hi⟩ := set_get h2
        rw [List.getElem?_set_self (h.tlen hi)] at e2
        cases e2
        exact key h1 m1 e1
      · rw [List.getElem?_set_ne n2] at h2 e2
        exact h.apart j k s u w hjk h1 h2 m1 m2 e1 e2
/-- a slot takes a new list -/
theorem Stt.setOwn (h : Stt S B M g t H) (i : Nat) {p : Addr} {vs : List V} {ds : List D} (hp : H p = none) (e : Same H H') (hl : H' p = some (.lst vs)) (r : Reps S (hid (p :: M) H') vs ds) :
    Stt S B (p :: M) (g.set i (.own ds)) (t.set i (some (.ref p))) H' :=
  h.setNew i hp e (by rw [hl]; intro z; cases z) ⟨p, vs, rfl, List.mem_cons_self, fun z => h.nm hp (h.sub p z), h.same.free hp, hl, r⟩
/-- an instance's slot -/
theorem Stt.setOb (h : Stt S B M g t H) (i : Nat) {p dx : Addr} {c : Nat} {ws : List (Str × V)} {fs : List (Str × D)} (hp : H p = none) (e : Same H H') (hl : H' p = some (.ins (S.cO c) dx ws)) (r : RepF S (hid (p :: M) H') ws fs) :
    Stt S B (p :: M) (g.set i (.ob p dx c fs)) (t.set i (some (.ref p))) H' :=
  h.setNew i hp e (by rw [hl]; intro z; cases z) ⟨rfl, List.mem_cons_self, h.same.free hp, ws, hl, r⟩
theorem Stt.own (h : Stt S B M g t H) {i : Nat} {ds : List D} (hi : g[i]? = some (.own ds)) : ∃ l vs, t[i]? = some (some (.ref l)) ∧ l ∈ M ∧ l ∉ B.M0 ∧ H l = some (.lst vs) ∧ Reps S (hid M H) vs ds := by
  obtain ⟨o, ho, l, vs, e, m, m0, h0, q⟩ := h.sl i _ hi
  exact ⟨l, vs, by rw [ho, e], m, m0, q⟩
/-- what may stand at an address that is changed -/
def Plain (o : HO) : Prop := (∀ x, o ≠ .own x) ∧ ∀ fs, o ≠ .xd fs
/-- a thing of one's own changes -/
theorem Stt.upAt (h : Stt S B M g t H) {i : Nat} {l : Addr} {s s' : Sl} {o o' : HO} (hi : g[i]? = some s) (hm' : s.mine = true) (ht : t[i]? = some (some (.ref l))) (hm : l ∈ M) (h0 : B.H0 l = none) (hl : H l = some o) (hp : Plain o)
    (r : RS S B M (upd H l o') s' (some (.ref l))) : Stt S B M (g.set i s') t (upd H l o') where
  same := fun a u q => by
    rw [upd_ne (ne_of_none q h0)]
    exact h.same _ _ q
  sub := h.sub
  new := h.new
  trk := fun a ha => by
    by_cases q : a = l
    · rw [q, upd_same]; intro z; cases z
    · rw [upd_ne q]; exact h.trk a ha
  sl := fun j u hj => by
    by_cases q : i = j
    · subst q
      obtain ⟨q, _⟩ := set_get hj
      subst q
      exact ⟨_, ht, r⟩
    · rw [List.getElem?_set_ne q] at hj
      obtain ⟨w, hw, rr⟩ := h.sl j u hj
      refine ⟨w, hw, ?_⟩
      have apart : ∀ a, u.mine = true → w = some (.ref a) → a ≠ l := fun a m e z => h.apart i j s u (.ref l) q hi hj hm' m ht (by rw [hw, e, z])
      cases u with
      | no => exact True.intro
      | v d =>
        obtain ⟨v, e1, r1⟩ := rr
        exact ⟨v, e1, by rw [hid_upd hm]; exact r1⟩
      | own ds' =>
        obtain ⟨l', vs', e1, m1, m2, z0, q1, q2⟩ := rr
        exact ⟨l', vs', e1, m1, m2, z0, by rw [upd_ne (apart l' rfl e1)]; exact q1, by rw [hid_upd hm]; exact q2⟩
      | ob a dx c fs =>
        obtain ⟨e1, m1, z0, ws, q1, q2⟩ := rr
        exact ⟨e1, m1, z0, ws, by rw [upd_ne (apart a rfl e1)]; exact q1, by rw [hid_upd hm]; exact q2⟩
      | pi a dx vs =>
        obtain ⟨e1, m1, m2, z0, z1, ne, hs, hd⟩ := rr
        have na : a ≠ l := apart a rfl e1
        have nd : dx ≠ l := fun z => by
          rcases hd with hd | hd
          · rw [z, hl] at hd; exact hp.1 a (Option.some.inj hd)
          · rw [z, hl] at hd; exact hp.2 _ (Option.some.inj hd)
        refine ⟨e1, m1, m2, z0, z1, ne, ?_, by rw [upd_ne nd]; exact hd⟩
        rcases hs with ⟨s1, s2⟩ | ⟨s1, s2⟩
        · exact .inl ⟨by rw [upd_ne na]; exact s1, s2⟩
        · exact .inr ⟨by rw [upd_ne na]; exact s1, by rw [upd_ne nd]; exact s2⟩
      | exc a dd c fs =>
        obtain ⟨e1, ws, hd, r1⟩ := rr
        have nd : dd ≠ l := fun z => by
          rw [z, hl] at hd
          exact hp.2 _ (Option.some.inj hd)
        exact ⟨e1, ws, by rw [upd_ne nd]; exact hd, by rw [hid_upd hm]; exact r1⟩
  gh := by rw [hid_upd hm]; exact h.gh
  apart := fun j k u w z hjk h1 h2 m1 m2 e1 e2 => by
    have back : ∀ {n : Nat} {u : Sl}, (g.set i s')[n]? = some u → u.mine = true → ∃ y, g[n]? = some y ∧ y.mine = true := fun {n u} q qm => by
      by_cases z : i = n
      · subst z; exact ⟨s, hi, hm'⟩
      · rw [List.getElem?_set_ne z] at q; exact ⟨u, q, qm⟩
    obtain ⟨y1, q1, p1⟩ := back h1 m1
    obtain ⟨y2, q2, p2⟩ := back h2 m2
    exact h.apart j k y1 y2 z hjk q1 q2 p1 p2 e1 e2
theorem plain_lst {vs : List V} : Plain (.lst vs) := ⟨fun x z => (nomatch z), fun _ z => (nomatch z)⟩
theorem plain_ins {C dx : Addr} {fs : List (Str × V)} : Plain (.ins C dx fs) := ⟨fun x z => (nomatch z), fun _ z => (nomatch z)⟩
theorem Stt.upOwn (h : Stt S B M g t H) {i : Nat} {l : Addr} {ds es : List D} {vs ws : List V} (hi : g[i]? = some (.own ds)) (ht : t[i]? = some (some (.ref l))) (hm : l ∈ M) (h0 : l ∉ B.M0) (hl : H l = some (.lst vs))
    (r : Reps S (hid M H) ws es) : Stt S B M (g.set i (.own es)) t (upd H l (.lst ws)) := by
  have z : B.H0 l = none := (h.new l hm).elim (fun z => absurd z h0) id
  exact h.upAt hi rfl ht hm z hl plain_lst ⟨l, ws, rfl, hm, h0, z, upd_same, by rw [hid_upd hm]; exact r⟩
theorem Stt.upOb (h : Stt S B M g t H) {i : Nat} {a dx : Addr} {c : Nat} {fs fs' : List (Str × D)} {ws : List (Str × V)} (hi : g[i]? = some (.ob a dx c fs)) (r : RepF S (hid M H) ws fs') :
    Stt S B M (g.set i (.ob a dx c fs')) t (upd H a (.ins (S.cO c) dx ws)) := by
  obtain ⟨o, ho, e1, m, h0, ws0, hl, _⟩ := h.sl i _ hi
  exact h.upAt hi rfl (by rw [ho, e1]) m h0 hl plain_ins ⟨rfl, m, h0, ws, upd_same, by rw [hid_upd m]; exact r⟩
/-- one's own list is a value from now on -/
theorem Stt.freeze (h : Stt S B M g t H) {i : Nat} {ds : List D} (hi : g[i]? = some (.own ds)) : ∃ M', Stt S B M' (g.set i (.v (.lst ds))) t H := by
  obtain ⟨l, vs, ht, hm, h0, hl, r⟩ := h.own hi
  have hs : ∀ b ∈ M.filter (fun a => decide (a ≠ l)), b ∈ M := fun b hb => (List.mem_filter.mp hb).1
  have hn : l ∉ M.filter (fun a => decide (a ≠ l)) := fun z => by
    have := (List.mem_filter.mp z).2
    simp at this
  have hin : ∀ a, a ∈ M → a ≠ l → a ∈ M.filter (fun a => decide (a ≠ l)) := fun a ha q => List.mem_filter.mpr ⟨ha, decide_eq_true q⟩
  refine ⟨M.filter (fun a => decide (a ≠ l)), ⟨h.same, fun a ha => hin a (h.sub a ha) (fun z => h0 (z ▸ ha)), fun a ha => h.new a (hs a ha), fun a ha => h.trk a (hs a ha), fun j s hj => ?_, B.gm _ _ (hid_sub hs) h.gh, fun j k s u w hjk h1 h2 m1 m2 e1 e2 => ?_⟩⟩
  · by_cases q : i = j
    · subst q
      obtain ⟨q, _⟩ := set_get hj
      subst q
      exact ⟨_, ht, .ref l, rfl, .lst (SqL.of (hid_of hn hl)) (r.mono (hid_sub hs))⟩
    · rw [List.getElem?_set_ne q] at hj
      obtain ⟨o, ho, rr⟩ := h.sl j s hj
      refine ⟨o, ho, ?_⟩
      have apart : ∀ a, s.mine = true → o = some (.ref a) → a ≠ l := fun a m e z => h.apart i j (.own ds) s (.ref l) q hi hj rfl m ht (by rw [ho, e, z])
      cases s with
      | no => exact True.intro
      | v d =>
        obtain ⟨v, e1, r1⟩ := rr
        exact ⟨v, e1, r1.mono (hid_sub hs)⟩
      | own ds' =>
        obtain ⟨l', vs', e1, m1, m2, z0, q1, q2⟩ := rr
        exact ⟨l', vs', e1, hin _ m1 (apart l' rfl e1), m2, z0, q1, q2.mono (hid_sub hs)⟩
      | ob a dx c fs =>
        obtain ⟨e1, m1, z0, ws, q1, q2⟩ := rr
        exact ⟨e1, hin _ m1 (apart a rfl e1), z0, ws, q1, q2.mono (hid_sub hs)⟩
      | pi a dx vs =>
        obtain ⟨e1, m1, m2, z0, z1, ne, q1, q2⟩ := rr
        have nd : dx ≠ l := fun z => by
          rcases q2 with hd | hd
          · rw [z, hl] at hd; cases hd
          · rw [z, hl] at hd; cases hd
        exact ⟨e1, hin _ m1 (apart a rfl e1), hin _ m2 nd, z0, z1, ne, q1, q2⟩
      | exc a dd c fs =>
        obtain ⟨e1, ws, hd, r1⟩ := rr
        exact ⟨e1, ws, hd, r1.mono (hid_sub hs)⟩
  · have n1 : i ≠ j := fun z => by
      subst z
      obtain ⟨q, _⟩ := set_get h1
      subst q
      cases m1
    have n2 : i ≠ k := fun z => by
      subst z
      obtain ⟨q, _⟩ := set_get h2
      subst q
      cases m2
    rw [List.getElem?_set_ne n1] at h1
    rw [List.getElem?_set_ne n2] at h2
    exact h.apart j k s u w hjk h1 h2 m1 m2 e1 e2
/-- a slot that is not one's own changes: what is known of it -/
theorem Stt.put (h : Stt S B M g t H) (i : Nat) {s : Sl} {o : Option V} (hm : s.mine = false) (r : RS S B M H s o) : Stt S B M (g.set i s) (t.set i o) H where
  same := h.same
  sub := h.sub
  new := h.new
  trk := h.trk
  sl := fun j u hj => by
    by_cases e : i = j
    · subst e
      obtain ⟨hs, hl⟩ := set_get hj
      subst hs
      exact ⟨o, List.getElem?_set_self (h.tlen hl), r⟩
    · rw [List.getElem?_set_ne e] at hj ⊢
      exact h.sl j u hj
  gh := h.gh
  apart := fun j k s' u w hjk h1 h2 m1 m2 e1 e2 => by
    have n1 : i ≠ j := fun e => by
      subst e
      obtain ⟨hs, _⟩ := set_get h1
      subst hs
      rw [hm] at m1
      cases m1
    have n2 : i ≠ k := fun e => by
      subst e
      obtain ⟨hs, _⟩ := set_get h2
      subst hs
      rw [hm] at m2
      cases m2
    rw [List.getElem?_set_ne n1] at h1 e1
    rw [List.getElem?_set_ne n2] at h2 e2
    exact h.apart j k s' u w hjk h1 h2 m1 m2 e1 e2
/-- the entry's hidden part is less than the body's -/
theorem Stt.out (h : Stt S B M g t H) : Same (hid M H) (hid B.M0 H) := hid_sub h.sub
end
end Fw

set_option Elab.async false
set_option linter.all false
set_option maxRecDepth 100000
set_option maxHeartbeats 4000000
namespace Fw
open PySem L2

/-! ### the judgements -/
/-- what stands around: fixed through a law -/
structure Wd where
  P : Program
  w : World
  K : PySem.W.Frag
  mg : Str → Option Value
  base : Heap
def wdOf (X : Cx) : Wd := ⟨X.prog, X.w, X.K, X.mg, X.base⟩

/-- a body's context: its world; no exception is being handled (Cc), or one is (Hc); room for calls -/
structure Kb (X : Cx) (W : Wd) (S : Sg) : Prop where
  wd : wdOf X = W
  K : W.K = S.K
  own : PassesOwn (model X.prog X.w) X.A X.env X.xe
  nd : X.N.Nodup
structure Cc (X : Cx) (W : Wd) (S : Sg) (k : Nat) : Prop extends Kb X W S where
  calm : X.calm = true
  room : Room k X.A
structure Hc (X : Cx) (W : Wd) (S : Sg) (k : Nat) : Prop extends Kb X W S where
  hot : L2H.HotC X
  roomH : L2H.RoomH k X.A
/-- the i-th name -/
structure Nm (X : Cx) (i : Nat) (x : Str) : Prop where
  n : X.N[i]? = some x
  vis : Vis X.env.scope x
  dbg : (x == ("__debug__" : Str)) = false
  cdt : (x == ("__classdict__" : Str)) = false
/-- .. that may be stored -/
structure Nl (X : Cx) (i : Nat) (x : Str) : Prop where
  n : X.N[i]? = some x
  loc : Loc X.env.scope x
  fn : X.fn x = true ∨ X.env.scope.names.lookup x = some .local
/-- a global name -/
structure Ng (X : Cx) (x : Str) : Prop where
  gl : Gl X x
  dbg : (x == ("__debug__" : Str)) = false

/-- what is wanted behind a statement; ex: which errors may leave -/
structure Po where
  nx : En → Prop
  rt : D → Prop
  bk : En → Prop := fun _ => False
  ct : En → Prop := fun _ => False
  ex : Nat → List (Str × D) → En → Prop := fun _ _ _ => False

structure Ct (S : Sg) (B : Bs) (U : WX) (P : Po) (E : Ends) : Prop where
  nx : ∀ g M t H, P.nx g → Stt S B M g t H → E.nx t H
  rt : ∀ v H d, P.rt d → Same B.H0 H → Rep S (hid B.M0 H) v d → E.rt v H
  bk : ∀ g M t H, P.bk g → Stt S B M g t H → E.bk t H
  ct : ∀ g M t H, P.ct g → Stt S B M g t H → E.ct t H
/-- the errors that may leave reach the wish U -/
def Cx' (S : Sg) (B : Bs) (U : WX) (P : Po) : Prop := ∀ c fs dx ws g M t H, P.ex c fs g → Stt S B M g t H → B.H0 dx = none → H dx = some (.xd ws) → RepF S (hid M H) ws fs → U (.ref (S.cX c)) (some dx) t H

def XE (X : Cx) (S : Sg) (g : En) (e : Expr) (d : D) : Prop := PE X e fun t H Q => ∃ B M, Stt S B M g t H ∧ ∀ v H', Same H H' → Rep S (hid M H') v d → Q v H'
/-- a new list -/
def XN (X : Cx) (S : Sg) (g : En) (e : Expr) (ds : List D) : Prop := PE X e fun t H Q => ∃ B M, Stt S B M g t H ∧ ∀ p vs H', H p = none → Same H H' → H' p = some (.lst vs) → Reps S (hid (p :: M) H') vs ds → Q (.ref p) H'
def XT (X : Cx) (S : Sg) (g : En) (e : Expr) (b : Bool) : Prop := PT X e fun t H Q => ∃ B M, Stt S B M g t H ∧ ∀ H', Same H H' → Q b H'
def XW (X : Cx) (S : Sg) (g : En) (e : Expr) (b : Bool) : Prop := PW X e fun t H Q => ∃ B M, Stt S B M g t H ∧ ∀ H', Same H H' → Q b H'
def XA (X : Cx) (S : Sg) (g : En) (es : List Expr) (ds : List D) : Prop := PA X es fun t H Q => ∃ B M, Stt S B M g t H ∧ ∀ vs H', Same H H' → Reps S (hid M H') vs ds → Q vs H'
def XS (X : Cx) (S : Sg) (U : WX) (g : En) (st : Stmt) (P : Po) : Prop := PS X st fun E t H => ∃ B M, Stt S B M g t H ∧ Ct S B U P E ∧ Cx' S B U P
def XB (X : Cx) (S : Sg) (U : WX) (g : En) (sts : List Stmt) (P : Po) : Prop := PSs X sts fun E t H => ∃ B M, Stt S B M g t H ∧ Ct S B U P E ∧ Cx' S B U P
/-- a target takes d: the slots behind it -/
def XG (X : Cx) (S : Sg) (g : En) (tg : Expr) (d : D) (g' : En) : Prop := PG X tg fun v t H Q => ∃ B M, Stt S B M g t H ∧ Rep S (hid M H) v d ∧ ∀ t', Stt S B M g' t' H → Q t' H
def XGs (X : Cx) (S : Sg) (g : En) (tgs : List Expr) (ds : List D) (g' : En) : Prop := PGs X tgs fun vs t H Q => ∃ B M, Stt S B M g t H ∧ Reps S (hid M H) vs ds ∧ ∀ t', Stt S B M g' t' H → Q t' H

section
variable {X : Cx} {e : Expr} {st : Stmt} {sts : List Stmt} {es : List Expr} {t t' : TE} {u u' : TT} {a a' : TA} {s s' : TS} {gg gg' : TG} {hh hh' : TGs}
theorem peI (h : PE X e t) (k : ∀ σ H Q, t' σ H Q → t σ H Q) : PE X e t' := ⟨fun pins s σ H Q I w => h.run pins s σ H Q I (k _ _ _ w)⟩
theorem ptI (h : PT X e u) (k : ∀ σ H Q, u' σ H Q → u σ H Q) : PT X e u' := ⟨fun pins s σ H Q I w => h.run pins s σ H Q I (k _ _ _ w)⟩
theorem pwI (h : PW X e u) (k : ∀ σ H Q, u' σ H Q → u σ H Q) : PW X e u' := ⟨fun wh pins s σ H Q I w => h.run wh pins s σ H Q I (k _ _ _ w)⟩
theorem paI (h : PA X es a) (k : ∀ σ H Q, a' σ H Q → a σ H Q) : PA X es a' := ⟨fun pos pins s σ H Q I w => h.run pos pins s σ H Q I (k _ _ _ w)⟩
theorem psI (h : PS X st s) (k : ∀ E σ H, s' E σ H → s E σ H) : PS X st s' := ⟨fun pins q σ H E I w => h.run pins q σ H E I (k _ _ _ w)⟩
theorem psbI (h : PSs X sts s) (k : ∀ E σ H, s' E σ H → s E σ H) : PSs X sts s' := ⟨fun pins q σ H E I w => h.run pins q σ H E I (k _ _ _ w)⟩
theorem pgI (h : PG X e gg) (k : ∀ v σ H Q, gg' v σ H Q → gg v σ H Q) : PG X e gg' := ⟨fun pins q σ H v u Q I r w => h.run pins q σ H v u Q I r (k _ _ _ _ w)⟩
theorem pgsI (h : PGs X es hh) (k : ∀ v σ H Q, hh' v σ H Q → hh v σ H Q) : PGs X es hh' := ⟨fun pins q σ H v u Q I r w => h.run pins q σ H v u Q I r (k _ _ _ _ w)⟩
end

/-! ### operations by data -/
abbrev RD (S : Sg) (das : List D) (d : D) : List V → Hp → VK → Prop := fun xs H Q => ∃ M, (∀ a ∈ M, H a ≠ none) ∧ Reps S (hid M H) xs das ∧ ∀ v H', Same H H' → Rep S (hid M H') v d → Q v H'
/-- a two-place operation on values -/
def BinD (X : Cx) (S : Sg) (f : Value → Value → Sem Value) (da db d : D) : Prop := OpR X f fun x y H Q => RD S [da, db] d [x, y] H Q
def UnD (X : Cx) (S : Sg) (f : Value → Sem Value) (da d : D) : Prop := UnR X f fun x H Q => RD S [da] d [x] H Q
def CallD (X : Cx) (S : Sg) (f : Value) (das : List D) (d : D) : Prop := CallR X f fun xs H Q => RD S das d xs H Q
def IxD (X : Cx) (S : Sg) (da db d : D) : Prop := IxR X fun x y H Q => RD S [da, db] d [x, y] H Q

section
variable {X : Cx} {W : Wd} {S : Sg} {k : Nat} {g g' g'' : En} {e a b c : Expr} {es : List Expr} {d da db dc : D} {ds das : List D} {pos p p' : Pos} {x : Str} {i j : Nat} {m n : Int} {bb b1 b2 : Bool}

/-! ### expressions -/
theorem e_var (N : Nm X i x) (h : g[i]? = some (.v d)) : XE X S g (.Name x pos) d :=
  peI (pe_var N.n N.vis N.dbg N.cdt) fun σ H Q ⟨B, M, st, k⟩ => let ⟨v, e, r⟩ := st.var h; ⟨v, e, k v H (Same.refl H) r⟩
theorem e_int : XE X S g (.Constant (.int m) j pos) (.int m) := peI pe_int fun σ H Q ⟨B, M, st, k⟩ => k _ H (Same.refl H) (.int m)
theorem e_bl : XE X S g (.Constant (.bool bb) j pos) (.bl bb) := peI pe_bl fun σ H Q ⟨B, M, st, k⟩ => k _ H (Same.refl H) (.bl bb)
theorem e_non : XE X S g (.Constant .none j pos) .non := peI pe_non fun σ H Q ⟨B, M, st, k⟩ => k _ H (Same.refl H) .non
theorem e_str : XE X S g (.Constant (.str x) j pos) (.str x) := peI pe_str fun σ H Q ⟨B, M, st, k⟩ => k _ H (Same.refl H) (.str x)
theorem e_bin {op : Operator} (ha : XE X S g a da) (hb : XE X S g b db) (ho : BinD X S (binaryOp op) da db d) : XE X S g (.BinOp a op b pos) d :=
  peI (pe_op ho ha hb) fun σ H Q ⟨B, M, st, k⟩ => ⟨B, M, st, fun v H1 e1 r1 => ⟨B, M, st.mono e1, fun u H2 e2 r2 => ⟨M, (st.mono (e1.trans e2)).trk, .cons (r1.mono (hid_same e2)) (.cons r2 .nil), fun w H3 e3 r3 => k w H3 ((e1.trans e2).trans e3) r3⟩⟩⟩
theorem e_un {op : UnaryOp} (ha : XE X S g a da) (ho : UnD X S (unaryOp op) da d) : XE X S g (.UnaryOp op a pos) d :=
  peI (pe_un ho ha) fun σ H Q ⟨B, M, st, k⟩ => ⟨B, M, st, fun v H1 e1 r1 => ⟨M, (st.mono e1).trk, .cons r1 .nil, fun w H3 e3 r3 => k w H3 (e1.trans e3) r3⟩⟩
theorem e_cmp {op : CmpOp} (ha : XE X S g a da) (hb : XE X S g b db) (ho : BinD X S (compareOp op) da db d) (hm : behindInMarks op b = false := by first | exact nomark _ | with_unfolding_all rfl) : XE X S g (.Compare a [op] [b] pos) d :=
  peI (pe_cmpR ho ha hb hm) fun σ H Q ⟨B, M, st, k⟩ => ⟨B, M, st, fun v H1 e1 r1 => ⟨B, M, st.mono e1, fun u H2 e2 r2 => ⟨M, (st.mono (e1.trans e2)).trk, .cons (r1.mono (hid_same e2)) (.cons r2 .nil), fun w H3 e3 r3 => k w H3 ((e1.trans e2).trans e3) r3⟩⟩⟩
theorem e_chain {op op' : CmpOp} (ha : XE X S g a da) (hb : XE X S g b db) (hc : XE X S g c dc) (ho : BinD X S (compareOp op) da db (.bl b1)) (ho' : BinD X S (compareOp op') db dc (.bl b2))
    (hm : lastMarks [op, op'] [b, c] = false := by with_unfolding_all rfl) : XE X S g (.Compare a [op, op'] [b, c] pos) (.bl (b1 && b2)) :=
  peI (pe_chain ho ho' ha hb hc hm) fun σ H Q ⟨B, M, st, k⟩ => ⟨B, M, st, fun v H1 e1 r1 => ⟨B, M, st.mono e1, fun u H2 e2 r2 => ⟨M, (st.mono (e1.trans e2)).trk, .cons (r1.mono (hid_same e2)) (.cons r2 .nil), fun w H3 e3 r3 => by
    cases r3
    refine ⟨b1, rfl, ?_⟩
    cases b1 with
    | true => exact ⟨B, M, st.mono ((e1.trans e2).trans e3), fun z H4 e4 r4 => ⟨M, (st.mono (((e1.trans e2).trans e3).trans e4)).trk, .cons (r2.mono (hid_same (e3.trans e4))) (.cons r4 .nil), fun w H5 e5 r5 => k w H5 ((((e1.trans e2).trans e3).trans e4).trans e5) r5⟩⟩
    | false => exact k _ H3 ((e1.trans e2).trans e3) (.bl false)⟩⟩⟩
theorem e_if {tc : Bool} (hc : XT X S g c tc) (ha : tc = true → XE X S g a d) (hb : tc = false → XE X S g b d) : XE X S g (.IfExp c a b pos) d := by
  cases tc with
  | true => exact peI (pe_ifExp hc (ha rfl) (tb := fun _ _ _ => False) ⟨fun _ _ _ _ _ _ z => z.elim⟩) fun σ H Q ⟨B, M, st, k⟩ => ⟨B, M, st, fun H1 e1 => by refine iteT ?_; exact ⟨B, M, st.mono e1, fun v H2 e2 r => k v H2 (e1.trans e2) r⟩⟩
  | false => exact peI (pe_ifExp hc (ta := fun _ _ _ => False) ⟨fun _ _ _ _ _ _ z => z.elim⟩ (hb rfl)) fun σ H Q ⟨B, M, st, k⟩ => ⟨B, M, st, fun H1 e1 => by refine iteF ?_; exact ⟨B, M, st.mono e1, fun v H2 e2 r => k v H2 (e1.trans e2) r⟩⟩
theorem a_nil : XA X S g [] [] := paI pa_nil fun σ H Q ⟨B, M, st, k⟩ => k [] H (Same.refl H) .nil
theorem a_cons (h : XE X S g e d) (t : XA X S g es ds) (hs : starEach (e :: es) X.env = (false, eval e X.env) :: starEach es X.env := by rfl) : XA X S g (e :: es) (d :: ds) :=
  paI (pa_cons h t hs) fun σ H Q ⟨B, M, st, k⟩ => ⟨B, M, st, fun v H1 e1 r1 => ⟨B, M, st.mono e1, fun vs H2 e2 r2 => k _ H2 (e1.trans e2) (.cons (r1.mono (hid_same e2)) r2)⟩⟩
theorem XA.len (hl : ds.length ≤ 100000) {vs : List V} {H : Hp} (r : Reps S H vs ds) : vs.length ≤ sizeLine := by
  rw [r.length]
  exact Evl.sz_of hl
theorem e_tup {z : Nat} (h : XA X S g es ds) (hl : ds.length ≤ 100000 := by decide) : XE X S g (.Tuple es z pos) (.tup ds) :=
  peI (pe_tup h) fun σ H Q ⟨B, M, st, k⟩ => ⟨B, M, st, fun vs H1 e1 r => ⟨XA.len hl r, fun p hp => k _ _ (e1.trans (same_upd hp)) (.tup (SqT.of (hid_of ((st.mono e1).nm hp) upd_same)) (r.mono (hid_same (same_upd hp))))⟩⟩
theorem n_lst (h : XA X S g es ds) (hl : ds.length ≤ 100000 := by decide) : XN X S g (.List es pos) ds :=
  peI (pe_lst h) fun σ H Q ⟨B, M, st, k⟩ => ⟨B, M, st, fun vs H1 e1 r => ⟨XA.len hl r, fun p hp => k p vs _ (e1.free hp) (e1.trans (same_upd hp)) upd_same (by
    rw [hid_upd List.mem_cons_self]
    exact r.mono (hid_new hp))⟩⟩
theorem n_e (h : XN X S g e ds) : XE X S g e (.lst ds) :=
  peI h fun σ H Q ⟨B, M, st, k⟩ => ⟨B, M, st, fun p vs H1 hp e1 hl r => k _ H1 e1 (.lst (SqL.of (hid_of (st.nm hp) hl)) (r.mono (hid_sub fun b hb => List.mem_cons_of_mem _ hb)))⟩
theorem e_ix (ha : XE X S g a da) (hb : XE X S g b db) (ho : IxD X S da db d) (hs : PlainIx b := by exact fun _ _ => rfl) : XE X S g (.Subscript a b pos) d :=
  peI (pe_ix ho ha hb hs) fun σ H Q ⟨B, M, st, k⟩ => ⟨B, M, st, fun v H1 e1 r1 => ⟨B, M, st.mono e1, fun u H2 e2 r2 => ⟨M, (st.mono (e1.trans e2)).trk, .cons (r1.mono (hid_same e2)) (.cons r2 .nil), fun w H3 e3 r3 => k w H3 ((e1.trans e2).trans e3) r3⟩⟩⟩
/-- a built-in function by its name -/
theorem e_callB {id : String} (C : CallD X S (.builtin id) das d) (G : Ng X x) (hm : X.mg x = none) (hv : bootBuiltins x = some (.builtin id)) (ha : XA X S g (e :: es) das) (hn : x ≠ "__name__" := by decide)
    (he : starEach (e :: es) X.env = (false, eval e X.env) :: starEach es X.env := by rfl) (hpl : (backTo pos (starEach es X.env)).any (·.1) = false := by rfl) : XE X S g (.Call (.Name x p) (e :: es) [] pos) d :=
  peI (pe_callB C G.gl hm hv ha hn G.dbg he hpl) fun σ H Q ⟨B, M, st, k⟩ => ⟨B, M, st, fun vs H1 e1 r => ⟨M, (st.mono e1).trk, r, fun v H2 e2 r2 => k v H2 (e1.trans e2) r2⟩⟩
theorem e_callT {T : String} (C : CallD X S (.type T) das d) (G : Ng X x) (hm : X.mg x = none) (hv : bootBuiltins x = some (.type T)) (ha : XA X S g (e :: es) das) (hn : x ≠ "__name__" := by decide)
    (he : starEach (e :: es) X.env = (false, eval e X.env) :: starEach es X.env := by rfl) (hpl : (backTo pos (starEach es X.env)).any (·.1) = false := by rfl) : XE X S g (.Call (.Name x p) (e :: es) [] pos) d :=
  peI (pe_callTy C G.gl hm hv ha hn G.dbg he hpl) fun σ H Q ⟨B, M, st, k⟩ => ⟨B, M, st, fun vs H1 e1 r => ⟨M, (st.mono e1).trk, r, fun v H2 e2 r2 => k v H2 (e1.trans e2) r2⟩⟩

/-! ### tests -/
theorem t_cmp {op : CmpOp} (ha : XE X S g a da) (hb : XE X S g b db) (ho : BinD X S (compareOp op) da db (.bl bb)) (hm : behindInMarks op b = false := by first | exact nomark _ | with_unfolding_all rfl) : XT X S g (.Compare a [op] [b] pos) bb :=
  ptI (pt_cmpR ho ha hb hm) fun σ H Q ⟨B, M, st, k⟩ => ⟨B, M, st, fun v H1 e1 r1 => ⟨B, M, st.mono e1, fun u H2 e2 r2 => ⟨M, (st.mono (e1.trans e2)).trk, .cons (r1.mono (hid_same e2)) (.cons r2 .nil), fun w H3 e3 r3 => by
    cases r3
    exact ⟨bb, rfl, k H3 ((e1.trans e2).trans e3)⟩⟩⟩⟩
theorem t_chain {op op' : CmpOp} (ha : XE X S g a da) (hb : XE X S g b db) (hc : XE X S g c dc) (ho : BinD X S (compareOp op) da db (.bl b1)) (ho' : BinD X S (compareOp op') db dc (.bl b2))
    (hm : lastMarks [op, op'] [b, c] = false := by with_unfolding_all rfl) : XT X S g (.Compare a [op, op'] [b, c] pos) (b1 && b2) :=
  ptI (pt_chain ho ho' ha hb hc hm) fun σ H Q ⟨B, M, st, k⟩ => ⟨B, M, st, fun v H1 e1 r1 => ⟨B, M, st.mono e1, fun u H2 e2 r2 => ⟨M, (st.mono (e1.trans e2)).trk, .cons (r1.mono (hid_same e2)) (.cons r2 .nil), fun w H3 e3 r3 => by
    cases r3
    refine ⟨b1, rfl, ?_⟩
    cases b1 with
    | true => exact ⟨B, M, st.mono ((e1.trans e2).trans e3), fun z H4 e4 r4 => ⟨M, (st.mono (((e1.trans e2).trans e3).trans e4)).trk, .cons (r2.mono (hid_same (e3.trans e4))) (.cons r4 .nil), fun w H5 e5 r5 => by
        cases r5
        exact ⟨b2, rfl, k H5 ((((e1.trans e2).trans e3).trans e4).trans e5)⟩⟩⟩
    | false => exact ⟨false, rfl, k H3 ((e1.trans e2).trans e3)⟩⟩⟩⟩
theorem t_val (h : XE X S g e (.bl bb)) (he : ∀ whole, isTrue e X.env whole = (do let v ← whole; standAt e.pos; holding [v] (truthy v)) := by exact fun _ => rfl) : XT X S g e bb :=
  ptI (pt_val h he) fun σ H Q ⟨B, M, st, k⟩ => ⟨B, M, st, fun v H1 e1 r => by
    cases r
    exact ⟨bb, rfl, k H1 e1⟩⟩
/-- truth by data -/
def truD : D → Option Bool
  | .non => some false
  | .bl b => some b
  | .int i => some (i != 0)
  | .tup xs => some (!xs.isEmpty)
  | .lst xs => some (!xs.isEmpty)
  | _ => none
theorem reps_empty {H : Hp} {vs : List V} (r : Reps S H vs ds) : vs.isEmpty = ds.isEmpty := by
  cases r <;> rfl
theorem tru_of {H : Hp} {v : V} (r : Rep S H v d) (h : truD d = some bb) : TruV S.K v H bb := by
  cases r with
  | non => exact (Option.some.inj h).symm
  | bl b => exact (Option.some.inj h).symm
  | int i => exact (Option.some.inj h).symm
  | str x => cases h
  | tup hq r =>
    refine .inr (.inl ⟨_, hq, ?_⟩)
    rw [reps_empty r]
    exact (Option.some.inj h).symm
  | lst hq r =>
    refine .inl ⟨_, hq, ?_⟩
    rw [reps_empty r]
    exact (Option.some.inj h).symm
  | pt => cases h
  | obj => cases h
theorem truV_mono {H H' : Hp} {v : V} (e : Same H H') (h : TruV S.K v H bb) : TruV S.K v H' bb := by
  cases v with
  | ref p =>
    rcases h with ⟨xs, q, e1⟩ | ⟨xs, q, e1⟩ | ⟨kvs, q, e1⟩
    · exact .inl ⟨xs, Evl.ex_l e q, e1⟩
    · exact .inr (.inl ⟨xs, Evl.ex_t e q, e1⟩)
    · exact .inr (.inr ⟨kvs, e _ _ q, e1⟩)
  | non => exact h
  | bl b => exact h
  | int i => exact h
  | str x => exact h
  | byt x => exact h
  | flt x => exact h
  | ty x => exact h
theorem t_tru (C : Kb X W S) (h : XE X S g e d) (hd : truD d = some bb) (he : ∀ whole, isTrue e X.env whole = (do let v ← whole; standAt e.pos; holding [v] (truthy v)) := by exact fun _ => rfl) : XT X S g e bb :=
  ptI (pt_truth h he) fun σ H Q ⟨B, M, st, k⟩ => ⟨B, M, st, fun v H1 e1 r => ⟨bb, by
    have z : X.K = S.K := (congrArg Wd.K C.wd).trans C.K
    rw [z]
    exact truV_mono hid_le (tru_of r hd), k H1 e1⟩⟩
theorem t_not (h : XT X S g e bb) : XT X S g (.UnaryOp .Not e pos) (!bb) := ptI (pt_not h) fun σ H Q ⟨B, M, st, k⟩ => ⟨B, M, st, fun H1 e1 => k H1 e1⟩
theorem w_and1 (h : XT X S g e bb) : XW X S g (.BoolOp .And [e] pos) bb := pw_and1 h
theorem w_or1 (h : XT X S g e bb) : XW X S g (.BoolOp .Or [e] pos) bb := pw_or1 h
theorem w_and (h1 : XT X S g a b1) (h2 : b1 = true → XW X S g (.BoolOp .And (b :: es) pos) b2) : XW X S g (.BoolOp .And (a :: b :: es) pos) (b1 && b2) := by
  cases b1 with
  | true => exact pwI (pw_and h1 (h2 rfl)) fun σ H Q ⟨B, M, st, k⟩ => ⟨B, M, st, fun H1 e1 => by refine iteT ?_; exact ⟨B, M, st.mono e1, fun H2 e2 => k H2 (e1.trans e2)⟩⟩
  | false => exact pwI (pw_and h1 (tB' := fun _ _ _ => False) ⟨fun _ _ _ _ _ _ _ z => z.elim⟩) fun σ H Q ⟨B, M, st, k⟩ => ⟨B, M, st, fun H1 e1 => by refine iteF ?_; exact k H1 e1⟩
theorem w_or (h1 : XT X S g a b1) (h2 : b1 = false → XW X S g (.BoolOp .Or (b :: es) pos) b2) : XW X S g (.BoolOp .Or (a :: b :: es) pos) (b1 || b2) := by
  cases b1 with
  | false => exact pwI (pw_or h1 (h2 rfl)) fun σ H Q ⟨B, M, st, k⟩ => ⟨B, M, st, fun H1 e1 => by refine iteF ?_; exact ⟨B, M, st.mono e1, fun H2 e2 => k H2 (e1.trans e2)⟩⟩
  | true => exact pwI (pw_or h1 (tB' := fun _ _ _ => False) ⟨fun _ _ _ _ _ _ _ z => z.elim⟩) fun σ H Q ⟨B, M, st, k⟩ => ⟨B, M, st, fun H1 e1 => by refine iteT ?_; exact k H1 e1⟩
theorem t_w (h : XW X S g e bb) : XT X S g e bb := h.pt
/-- and, or as values (bools) -/
theorem e_one {op : BoolOp} (h : XE X S g e d) : XE X S g (.BoolOp op [e] pos) d := pe_one h
theorem e_and (h1 : XE X S g a (.bl b1)) (h2 : b1 = true → XE X S g (.BoolOp .And (b :: es) pos) (.bl b2)) : XE X S g (.BoolOp .And (a :: b :: es) pos) (.bl (b1 && b2)) := by
  cases b1 with
  | true => exact peI (pe_and h1 (h2 rfl)) fun σ H Q ⟨B, M, st, k⟩ => ⟨B, M, st, fun v H1 e1 r => by
      cases r
      refine ⟨true, rfl, ?_⟩
      refine iteT ?_
      exact ⟨B, M, st.mono e1, fun v2 H2 e2 r2 => k v2 H2 (e1.trans e2) r2⟩⟩
  | false => exact peI (pe_and h1 (tb := fun _ _ _ => False) ⟨fun _ _ _ _ _ _ z => z.elim⟩) fun σ H Q ⟨B, M, st, k⟩ => ⟨B, M, st, fun v H1 e1 r => by
      cases r
      refine ⟨false, rfl, ?_⟩
      refine iteF ?_
      exact k _ H1 e1 (.bl false)⟩
theorem e_or (h1 : XE X S g a (.bl b1)) (h2 : b1 = false → XE X S g (.BoolOp .Or (b :: es) pos) (.bl b2)) : XE X S g (.BoolOp .Or (a :: b :: es) pos) (.bl (b1 || b2)) := by
  cases b1 with
  | false => exact peI (pe_or h1 (h2 rfl)) fun σ H Q ⟨B, M, st, k⟩ => ⟨B, M, st, fun v H1 e1 r => by
      cases r
      refine ⟨false, rfl, ?_⟩
      refine iteF ?_
      exact ⟨B, M, st.mono e1, fun v2 H2 e2 r2 => k v2 H2 (e1.trans e2) r2⟩⟩
  | true => exact peI (pe_or h1 (tb := fun _ _ _ => False) ⟨fun _ _ _ _ _ _ z => z.elim⟩) fun σ H Q ⟨B, M, st, k⟩ => ⟨B, M, st, fun v H1 e1 r => by
      cases r
      refine ⟨true, rfl, ?_⟩
      refine iteT ?_
      exact k _ H1 e1 (.bl true)⟩
theorem e_not (h : XE X S g a (.bl bb)) : XE X S g (.UnaryOp .Not a pos) (.bl (!bb)) := peI (pe_not h) fun σ H Q ⟨B, M, st, k⟩ => ⟨B, M, st, fun v H1 e1 r => by
  cases r
  exact ⟨bb, rfl, k _ H1 e1 (.bl _)⟩⟩
theorem XE.is (h : XE X S g e d) {d' : D} (z : d = d') : XE X S g e d' := z ▸ h
theorem XT.is (h : XT X S g e bb) {b' : Bool} (z : bb = b') : XT X S g e b' := z ▸ h
end
end Fw

set_option Elab.async false
set_option linter.all false
set_option maxRecDepth 100000
set_option maxHeartbeats 4000000
namespace Fw
open PySem L2

/-! ### operations by data -/
section
variable {X : Cx} {W : Wd} {S : Sg} {k : Nat} {f : Value → Value → Sem Value} {r : R2} {i j : Int} {v : V} {d : D}
theorem Reps.one {H : Hp} {xs : List V} {a : D} (r : Reps S H xs [a]) : ∃ x, xs = [x] ∧ Rep S H x a := by
  cases r with
  | cons h t => cases t; exact ⟨_, rfl, h⟩
theorem Reps.two {H : Hp} {xs : List V} {a b : D} (r : Reps S H xs [a, b]) : ∃ x y, xs = [x, y] ∧ Rep S H x a ∧ Rep S H y b := by
  cases r with
  | cons h t => obtain ⟨y, rfl, q⟩ := t.one; exact ⟨_, y, rfl, h, q⟩
theorem binII (ho : OpR X f r) (h : ∀ (H : Hp) (Q : VK), Q v H → r (.int i) (.int j) H Q) (hv : ∀ H, Rep S H v d) : BinD X S f (.int i) (.int j) d := by
  intro pins s σ H x y u w Q I rx ry q
  obtain ⟨M, _, q, K⟩ := q
  obtain ⟨x', y', e, q1, q2⟩ := q.two
  cases e
  cases q1
  cases q2
  exact ho pins s σ H _ _ u w Q I rx ry (h H Q (K v H (Same.refl H) (hv _)))
theorem b_add : BinD X S (binaryOp .Add) (.int i) (.int j) (.int (i + j)) := binII op_add (fun H Q q => ⟨i, j, rfl, rfl, q⟩) fun H => .int _
theorem b_sub : BinD X S (binaryOp .Sub) (.int i) (.int j) (.int (i - j)) := binII op_sub (fun H Q q => ⟨i, j, rfl, rfl, q⟩) fun H => .int _
theorem b_mul (h : CMulW i j) : BinD X S (binaryOp .Mult) (.int i) (.int j) (.int (i * j)) := binII op_mulW (fun H Q q => ⟨i, j, rfl, rfl, h, q⟩) fun H => .int _
theorem b_fdiv (h : CDivW i j) : BinD X S (binaryOp .FloorDiv) (.int i) (.int j) (.int (i / j)) := binII op_fdivW (fun H Q q => ⟨i, j, rfl, rfl, h, q⟩) fun H => .int _
theorem b_mod (h : 0 < j) : BinD X S (binaryOp .Mod) (.int i) (.int j) (.int (i % j)) := binII op_mod (fun H Q q => ⟨i, j, rfl, rfl, h, q⟩) fun H => .int _
theorem b_modN (h : j ≠ 0) : BinD X S (binaryOp .Mod) (.int i) (.int j) (.int (i.fmod j)) := binII op_modN (fun H Q q => ⟨i, j, rfl, rfl, h, q⟩) fun H => .int _
theorem b_pow (h : CPow i j) : BinD X S (binaryOp .Pow) (.int i) (.int j) (.int (i ^ j.toNat)) := binII op_pow (fun H Q q => ⟨i, j, rfl, rfl, h, q⟩) fun H => .int _
theorem c_lt : BinD X S (compareOp .Lt) (.int i) (.int j) (.bl (decide (i < j))) := binII op_lt (fun H Q q => ⟨i, j, rfl, rfl, q⟩) fun H => .bl _
theorem c_le : BinD X S (compareOp .LtE) (.int i) (.int j) (.bl (decide (i ≤ j))) := binII op_le (fun H Q q => ⟨i, j, rfl, rfl, q⟩) fun H => .bl _
theorem c_gt : BinD X S (compareOp .Gt) (.int i) (.int j) (.bl (decide (j < i))) := binII op_gt (fun H Q q => ⟨i, j, rfl, rfl, q⟩) fun H => .bl _
theorem c_ge : BinD X S (compareOp .GtE) (.int i) (.int j) (.bl (decide (j ≤ i))) := binII op_ge (fun H Q q => ⟨i, j, rfl, rfl, q⟩) fun H => .bl _
theorem c_eq : BinD X S (compareOp .Eq) (.int i) (.int j) (.bl (decide (i = j))) := binII op_eq (fun H Q q => ⟨rfl, by
  have e : decide (V.int i = V.int j) = decide (i = j) := by
    rw [Bool.eq_iff_iff]
    simp
  rw [e]
  exact q⟩) fun H => .bl _
theorem c_ne : BinD X S (compareOp .NotEq) (.int i) (.int j) (.bl (!decide (i = j))) := binII op_ne (fun H Q q => ⟨rfl, by
  have e : decide (V.int i = V.int j) = decide (i = j) := by
    rw [Bool.eq_iff_iff]
    simp
  rw [e]
  exact q⟩) fun H => .bl _
/-- == of bools, of texts -/
theorem c_eqB {a b : Bool} : BinD X S (compareOp .Eq) (.bl a) (.bl b) (.bl (decide (a = b))) := by
  intro pins s σ H x y u w Q I rx ry ⟨M, _, q, K⟩
  obtain ⟨x', y', e, q1, q2⟩ := q.two
  cases e
  cases q1
  cases q2
  refine op_eq pins s σ H _ _ u w Q I rx ry ⟨rfl, ?_⟩
  have e : decide (V.bl a = V.bl b) = decide (a = b) := by
    rw [Bool.eq_iff_iff]
    simp
  rw [e]
  exact K _ H (Same.refl H) (.bl _)
theorem c_neB {a b : Bool} : BinD X S (compareOp .NotEq) (.bl a) (.bl b) (.bl (!decide (a = b))) := by
  intro pins s σ H x y u w Q I rx ry ⟨M, _, q, K⟩
  obtain ⟨x', y', e, q1, q2⟩ := q.two
  cases e
  cases q1
  cases q2
  refine op_ne pins s σ H _ _ u w Q I rx ry ⟨rfl, ?_⟩
  have e : decide (V.bl a = V.bl b) = decide (a = b) := by
    rw [Bool.eq_iff_iff]
    simp
  rw [e]
  exact K _ H (Same.refl H) (.bl _)
theorem c_eqS {a b : Str} : BinD X S (compareOp .Eq) (.str a) (.str b) (.bl (decide (a = b))) := by
  intro pins s σ H x y u w Q I rx ry ⟨M, _, q, K⟩
  obtain ⟨x', y', e, q1, q2⟩ := q.two
  cases e
  cases q1
  cases q2
  refine op_eq pins s σ H _ _ u w Q I rx ry ⟨rfl, ?_⟩
  have e : decide (V.str a = V.str b) = decide (a = b) := by
    rw [Bool.eq_iff_iff]
    simp
  rw [e]
  exact K _ H (Same.refl H) (.bl _)
theorem c_neS {a b : Str} : BinD X S (compareOp .NotEq) (.str a) (.str b) (.bl (!decide (a = b))) := by
  intro pins s σ H x y u w Q I rx ry ⟨M, _, q, K⟩
  obtain ⟨x', y', e, q1, q2⟩ := q.two
  cases e
  cases q1
  cases q2
  refine op_ne pins s σ H _ _ u w Q I rx ry ⟨rfl, ?_⟩
  have e : decide (V.str a = V.str b) = decide (a = b) := by
    rw [Bool.eq_iff_iff]
    simp
  rw [e]
  exact K _ H (Same.refl H) (.bl _)
/-- x is None -/
def isNonD : D → Bool
  | .non => true
  | _ => false
theorem isNon_of {H : Hp} {x : V} (r : Rep S H x d) : decide (x = .non) = isNonD d := by
  cases r <;> rfl
theorem c_isN : BinD X S (compareOp .Is) d .non (.bl (isNonD d)) := by
  intro pins s σ H x y u w Q I rx ry ⟨M, _, q, K⟩
  obtain ⟨x', y', e, q1, q2⟩ := q.two
  cases e
  cases q2
  refine op_isN pins s σ H _ _ u w Q I rx ry ⟨rfl, ?_⟩
  rw [isNon_of q1]
  exact K _ H (Same.refl H) (.bl _)
theorem c_isnotN : BinD X S (compareOp .IsNot) d .non (.bl (!isNonD d)) := by
  intro pins s σ H x y u w Q I rx ry ⟨M, _, q, K⟩
  obtain ⟨x', y', e, q1, q2⟩ := q.two
  cases e
  cases q2
  refine op_notN pins s σ H _ _ u w Q I rx ry ⟨rfl, ?_⟩
  rw [isNon_of q1]
  exact K _ H (Same.refl H) (.bl _)
/-- x is True, x is False -/
def isBlD (b : Bool) : D → Bool
  | .bl a => decide (a = b)
  | _ => false
theorem is_bool_gen {M : Model} {A : Around} {E : Value → Shared → Prop} {s : Shared} {Q : Value → Shared → Prop} {x : V} {v : Value} {b : Bool} (r : RelV x v) (h : Q (.bool (v == .bool b)) s) : wpAny M A (compareOp .Is v (.bool b)) Q E s := by
  cases x with
  | int i => obtain ⟨t, rfl⟩ := r; exact wpAny_pure h
  | str i => obtain ⟨t, rfl⟩ := r; exact wpAny_pure h
  | byt i => obtain ⟨t, rfl⟩ := r; exact wpAny_pure h
  | flt i => obtain ⟨t, rfl⟩ := r; exact wpAny_pure h
  | _ => cases r; exact wpAny_pure h
theorem isnot_bool_gen {M : Model} {A : Around} {E : Value → Shared → Prop} {s : Shared} {Q : Value → Shared → Prop} {x : V} {v : Value} {b : Bool} (r : RelV x v) (h : Q (.bool (!(v == .bool b))) s) : wpAny M A (compareOp .IsNot v (.bool b)) Q E s := by
  cases x with
  | int i => obtain ⟨t, rfl⟩ := r; exact wpAny_pure h
  | str i => obtain ⟨t, rfl⟩ := r; exact wpAny_pure h
  | byt i => obtain ⟨t, rfl⟩ := r; exact wpAny_pure h
  | flt i => obtain ⟨t, rfl⟩ := r; exact wpAny_pure h
  | _ => cases r; exact wpAny_pure h
theorem isBl_of {H : Hp} {x : V} {u : Value} {b : Bool} (r : Rep S H x d) (ru : RelV x u) : (u == .bool b) = isBlD b d := by
  cases r with
  | bl a =>
    cases ru
    show (Value.bool a == Value.bool b) = decide (a = b)
    rw [Bool.eq_iff_iff]
    simp
  | non => cases ru; rfl
  | int i => obtain ⟨t, rfl⟩ := ru; rfl
  | str i => obtain ⟨t, rfl⟩ := ru; rfl
  | tup => cases ru; rfl
  | lst => cases ru; rfl
  | pt => cases ru; rfl
  | obj => cases ru; rfl
theorem c_isB {b : Bool} : BinD X S (compareOp .Is) d (.bl b) (.bl (isBlD b d)) := by
  intro pins s σ H x y u w Q I rx ry ⟨M, _, q, K⟩
  obtain ⟨x', y', e, q1, q2⟩ := q.two
  cases e
  cases q2
  cases ry
  refine is_bool_gen rx ⟨.bl (isBlD b d), H, I, ?_, K _ H (Same.refl H) (.bl _)⟩
  show Value.bool _ = Value.bool _
  rw [isBl_of q1 rx]
theorem c_isnotB {b : Bool} : BinD X S (compareOp .IsNot) d (.bl b) (.bl (!isBlD b d)) := by
  intro pins s σ H x y u w Q I rx ry ⟨M, _, q, K⟩
  obtain ⟨x', y', e, q1, q2⟩ := q.two
  cases e
  cases q2
  cases ry
  refine isnot_bool_gen rx ⟨.bl (!isBlD b d), H, I, ?_, K _ H (Same.refl H) (.bl _)⟩
  show Value.bool _ = Value.bool _
  rw [isBl_of q1 rx]
theorem u_neg : UnD X S (unaryOp .USub) (.int i) (.int (-i)) := by
  intro pins s σ H x u Q I rx ⟨M, _, q, K⟩
  obtain ⟨x', e, q1⟩ := q.one
  cases e
  cases q1
  exact un_neg pins s σ H _ u Q I rx ⟨i, rfl, K _ H (Same.refl H) (.int _)⟩
theorem k_abs : CallD X S (.builtin "abs") [.int i] (.int (if i < 0 then -i else i)) := by
  intro pins s σ H xs us Q I r ⟨M, _, q, K⟩
  obtain ⟨x', e, q1⟩ := q.one
  cases e
  cases q1
  exact call_abs pins s σ H _ us Q I r ⟨i, rfl, K _ H (Same.refl H) (.int _)⟩
theorem k_int : CallD X S (.type "int") [.int i] (.int i) := by
  intro pins s σ H xs us Q I r ⟨M, _, q, K⟩
  obtain ⟨x', e, q1⟩ := q.one
  cases e
  cases q1
  exact call_int1 pins s σ H _ us Q I r (.inl ⟨i, rfl, K _ H (Same.refl H) (.int _)⟩)
theorem k_max2 (C : Cc X W S k) : CallD X S (.builtin "max") [.int i, .int j] (.int (if j > i then j else i)) := by
  intro pins s σ H xs us Q I r ⟨M, _, q, K⟩
  obtain ⟨x', y', e, q1, q2⟩ := q.two
  cases e
  cases q1
  cases q2
  exact call_max2 C.calm pins s σ H _ us Q I r ⟨i, j, rfl, K _ H (Same.refl H) (.int _)⟩
theorem k_min2 (C : Cc X W S k) : CallD X S (.builtin "min") [.int i, .int j] (.int (if j < i then j else i)) := by
  intro pins s σ H xs us Q I r ⟨M, _, q, K⟩
  obtain ⟨x', y', e, q1, q2⟩ := q.two
  cases e
  cases q1
  cases q2
  exact call_min2 C.calm pins s σ H _ us Q I r ⟨i, j, rfl, K _ H (Same.refl H) (.int _)⟩
theorem Kb.kk (C : Kb X W S) : X.K = S.K := (congrArg Wd.K C.wd).trans C.K
theorem hid_l {K : PySem.W.Frag} {M : List Addr} {H : Hp} {a : Addr} {xs : List V} (h : SqL K (hid M H) a xs) : SqL K H a xs := Evl.ex_l hid_le h
theorem hid_t {K : PySem.W.Frag} {M : List Addr} {H : Hp} {a : Addr} {xs : List V} (h : SqT K (hid M H) a xs) : SqT K H a xs := Evl.ex_t hid_le h
theorem k_lenL (C : Kb X W S) {ds : List D} : CallD X S (.builtin "len") [.lst ds] (.int (ds.length : Int)) := by
  intro pins s σ H xs us Q I r ⟨M, _, q, K⟩
  obtain ⟨x', e, q1⟩ := q.one
  cases e
  cases q1 with
  | lst hq rr =>
    refine call_len_seq pins s σ H _ us Q I r ⟨_, _, rfl, .inl (hid_l (by rw [C.kk]; exact hq)), ?_⟩
    rw [rr.length]
    exact K _ H (Same.refl H) (.int _)
theorem k_lenT (C : Kb X W S) {ds : List D} : CallD X S (.builtin "len") [.tup ds] (.int (ds.length : Int)) := by
  intro pins s σ H xs us Q I r ⟨M, _, q, K⟩
  obtain ⟨x', e, q1⟩ := q.one
  cases e
  cases q1 with
  | tup hq rr =>
    refine call_len_seq pins s σ H _ us Q I r ⟨_, _, rfl, .inr (hid_t (by rw [C.kk]; exact hq)), ?_⟩
    rw [rr.length]
    exact K _ H (Same.refl H) (.int _)
theorem k_lenS {z : Str} (hz : z.length ≤ sizeLine) : CallD X S (.builtin "len") [.str z] (.int (z.length : Int)) := by
  intro pins s σ H xs us Q I r ⟨M, _, q, K⟩
  obtain ⟨x', e, q1⟩ := q.one
  cases e
  cases q1
  exact call_len_str pins s σ H _ us Q I r ⟨z, rfl, hz, K _ H (Same.refl H) (.int _)⟩
theorem reps_at {H : Hp} {vs : List V} {ds : List D} (r : Reps S H vs ds) (h : atI ds i = some d) : ∃ v, atI vs i = some v ∧ Rep S H v d := by
  unfold atI at h ⊢
  rw [r.length]
  cases e : ixN ds.length i with
  | none => rw [e] at h; cases h
  | some n =>
    rw [e] at h
    obtain ⟨v, h1, h2⟩ := r.get (i := n) (d := d) h
    exact ⟨v, h1, h2⟩
theorem x_lst (C : Kb X W S) {ds : List D} (h : atI ds i = some d) : IxD X S (.lst ds) (.int i) d := by
  intro value slice pins s σ H x y u w Q I rx ry ⟨M, _, q, K⟩ hs
  obtain ⟨x', y', e, q1, q2⟩ := q.two
  cases e
  cases q2
  cases q1 with
  | lst hq rr =>
    obtain ⟨v, h1, h2⟩ := reps_at rr h
    exact ix_list value slice pins s σ H _ _ u w Q I rx ry ⟨_, _, i, v, rfl, rfl, hid_l (by rw [C.kk]; exact hq), h1, K v H (Same.refl H) h2⟩ hs
theorem x_tup (C : Kb X W S) {ds : List D} (h : atI ds i = some d) : IxD X S (.tup ds) (.int i) d := by
  intro value slice pins s σ H x y u w Q I rx ry ⟨M, _, q, K⟩ hs
  obtain ⟨x', y', e, q1, q2⟩ := q.two
  cases e
  cases q2
  cases q1 with
  | tup hq rr =>
    obtain ⟨v, h1, h2⟩ := reps_at rr h
    exact ix_tup value slice pins s σ H _ _ u w Q I rx ry ⟨_, _, i, v, rfl, rfl, hid_t (by rw [C.kk]; exact hq), h1, K v H (Same.refl H) h2⟩ hs
end

/-! ### defs -/
inductive Out where
  | ok (d : D) | err (c : Nat) (fs : List (Str × D))
def OutK (S : Sg) (H : Hp) (M : List Addr) (Q : VK) (E : XK) : Out → Prop
  | .ok d => ∀ v H', Same H H' → Rep S (hid M H') v d → Q v H'
  | .err c fs => ∀ dx ws H', Same H H' → H dx = none → H' dx = some (.xd ws) → RepF S (hid M H') ws fs → E (.ref (S.cX c)) (some dx) H'
/-- the promise of a def by what it does to data -/
def spOf (S : Sg) (n : Nat) (R : List D → Out → Prop) : Sp := fun vs H Q E => vs.length = n ∧ ∃ M ds o, (∀ a ∈ M, H a ≠ none) ∧ Reps S (hid M H) vs ds ∧ R ds o ∧ OutK S H M Q E o

theorem passN {X : Cx} : Passes (L2N.CX X.prog X.w) X E0 := fun pins σ H s e s' I h => by
  obtain ⟨_, _, _, _, _, _, _, _, _, _, _, _, z⟩ := h
  exact z.elim
/-- the def x, called with n arguments (dd: what fills up), at level k -/
structure Fn (W : Wd) (S : Sg) (k : Nat) (x : Str) (n : Nat) (dd : List D) (R : List D → Out → Prop) : Prop where
  ex : ∃ f fd ps, FnOk W.P W.w W.K W.mg W.base (L2N.CX W.P W.w) k f fd ps (spOf S ps.length R) ∧ W.mg x = some (.ref f) ∧ PySem.W.keepIn W.K (.ref f) = true ∧ ps.length = n + dd.length ∧
    ∃ dvs us, Binds W.K fd ps us ∧ Vals dvs us ∧ ∀ H, Reps S H dvs dd

section
variable {X : Cx} {W : Wd} {S : Sg} {k j : Nat} {g g' : En} {e : Expr} {es : List Expr} {ds dd : List D} {d : D} {x : Str} {n : Nat} {R : List D → Out → Prop} {pos p : Pos}
theorem sp_use {dvs : List V} {B : Bs} {M : List Addr} {t : L2.St} {H : Hp} {Q : VK} {E : XK} (hd : ∀ H, Reps S H dvs dd) (hn : ds.length + dd.length = n) (hR : R (ds ++ dd) (.ok d)) (st : Stt S B M g t H)
    {vs : List V} (r : Reps S (hid M H) vs ds) (k : ∀ v H', Same H H' → Rep S (hid M H') v d → Q v H') : spOf S n R (vs ++ dvs) H Q E :=
  ⟨by rw [List.length_append, r.length, (hd H).length]; exact hn, M, _, _, st.trk, r.append (hd _), hR, k⟩
theorem e_call (C : Cc X W S k) (F : Fn W S j x n dd R) (G : Ng X x) (ha : XA X S g (e :: es) ds) (hR : R (ds ++ dd) (.ok d)) (hn : ds.length = n := by rfl) (hj : j ≤ k := by decide)
    (he : starEach (e :: es) X.env = (false, eval e X.env) :: starEach es X.env := by rfl) (hpl : (backTo pos (starEach es X.env)).any (·.1) = false := by rfl) : XE X S g (.Call (.Name x p) (e :: es) [] pos) d := by
  obtain ⟨f, fd, ps, F, hm, hk, hl, dvs, us, hb, hv, hd⟩ := F.ex
  obtain ⟨⟨w1, w2, c3, c4⟩, c1, c2⟩ := C
  subst w1
  refine peI (pe_call (E := E0) F (c2.mono hj) G.gl hm hk hb hv passN ha G.dbg he hpl) ?_
  intro σ H Q ⟨B, M, st, kk⟩
  exact ⟨B, M, st, fun vs H1 e1 r => sp_use hd (by rw [hl, hn]) hR (st.mono e1) r fun v H2 e2 r2 => kk v H2 (e1.trans e2) r2⟩
end
end Fw

set_option Elab.async false
set_option linter.all false
set_option maxRecDepth 100000
set_option maxHeartbeats 4000000
namespace Fw
open PySem L2

section
variable {X : Cx} {W : Wd} {S : Sg} {U : WX} {k : Nat} {g g' : En} {P : Po} {e c : Expr} {st : Stmt} {rest body orelse : List Stmt} {d : D} {ds : List D} {x : Str} {i : Nat} {pos p : Pos} {b : Bool}

/-! ### statements -/
theorem s_nil (h : P.nx g) : XB X S U g [] P := psbI pss_nil fun E σ H ⟨B, M, st, c, _⟩ => c.nx _ _ _ _ h st
theorem s_cons (h : XS X S U g st { P with nx := fun g' => XB X S U g' rest P }) : XB X S U g (st :: rest) P := by
  have h2 : PSs X rest (fun E t H => ∃ g', XB X S U g' rest P ∧ ∃ B M, Stt S B M g' t H ∧ Ct S B U P E ∧ Cx' S B U P) := ⟨fun pins s σ H E I ⟨g', hx, w⟩ => hx.run pins s σ H E I w⟩
  refine psbI (pss_cons h h2) fun E σ H ⟨B, M, st, c, x⟩ => ?_
  exact ⟨B, M, st, ⟨fun g' M' t' H' hx st' => ⟨g', hx, B, M', st', c, x⟩, c.rt, c.bk, c.ct⟩, x⟩
/-- with a word between the statement and the rest -/
theorem s_mid (Mid : En → Prop) (h : XS X S U g st { P with nx := Mid }) (h2 : ∀ g', Mid g' → XB X S U g' rest P) : XB X S U g (st :: rest) P := by
  refine s_cons (psI h fun E σ H ⟨B, M, st, c, x⟩ => ⟨B, M, st, ⟨fun g' M' t' H' hx st' => c.nx g' M' t' H' (h2 g' hx) st', c.rt, c.bk, c.ct⟩, x⟩)
theorem s_imp {P' : Po} (h : XS X S U g st P') (hn : ∀ g, P'.nx g → P.nx g) (hr : ∀ d, P'.rt d → P.rt d) (hb : ∀ g, P'.bk g → P.bk g) (hc : ∀ g, P'.ct g → P.ct g) (hx : ∀ c fs g, P'.ex c fs g → P.ex c fs g) : XS X S U g st P :=
  psI h fun E σ H ⟨B, M, st, c, x⟩ => ⟨B, M, st, ⟨fun g' M' t' H' z st' => c.nx g' M' t' H' (hn _ z) st', fun v H d z => c.rt v H d (hr _ z), fun g' M' t' H' z => c.bk g' M' t' H' (hb _ z), fun g' M' t' H' z => c.ct g' M' t' H' (hc _ z)⟩,
    fun c' fs dx ws g M t H z => x c' fs dx ws g M t H (hx _ _ _ z)⟩
theorem s_asg (C : Kb X W S) (N : Nl X i x) (he : XE X S g e d) (h : P.nx (g.set i (.v d))) (hs : swapsWith e (some (.Name x p)) pos.line X.env = pure false := by rfl) : XS X S U g (.Assign [.Name x p] e pos) P :=
  psI (ps_set C.nd N.n N.loc he hs N.fn) fun E σ H ⟨B, M, st, c, _⟩ => ⟨B, M, st, fun v H1 e1 r => c.nx _ M _ H1 h ((st.mono e1).set i r)⟩
theorem s_asgN (C : Kb X W S) (N : Nl X i x) (he : XN X S g e ds) (h : P.nx (g.set i (.own ds))) (hs : swapsWith e (some (.Name x p)) pos.line X.env = pure false := by rfl) : XS X S U g (.Assign [.Name x p] e pos) P :=
  psI (ps_set C.nd N.n N.loc he hs N.fn) fun E σ H ⟨B, M, st, c, _⟩ => ⟨B, M, st, fun q vs H1 hp e1 hl r => c.nx _ _ _ H1 h (st.setOwn i hp e1 hl r)⟩
/-- target = e -/
theorem s_asgT {tg : Expr} (he : XE X S g e d) (ht : XG X S g tg d g') (h : P.nx g') (hs : swapsWithSole [tg] e pos.line X.env = pure false := by rfl) (hw : swappedStores [tg] e X.env = pure none := by rfl)
    (h1 : (assignEach [tg] X.env).map (·.2) = [assign tg X.env] := by rfl) : XS X S U g (.Assign [tg] e pos) P :=
  psI (ps_asg he ht hs hw h1) fun E σ H ⟨B, M, st, c, _⟩ => ⟨B, M, st, fun v H1 e1 r => ⟨B, M, st.mono e1, r, fun t' st' => c.nx _ _ _ _ h st'⟩⟩
theorem s_ret (he : XE X S g e d) (h : P.rt d) : XS X S U g (.Return (some e) pos) P :=
  psI (ps_ret he) fun E σ H ⟨B, M, st, c, _⟩ => ⟨B, M, st, fun v H1 e1 r => c.rt v H1 d h (st.same.trans e1) (r.mono (st.mono e1).out)⟩
theorem s_retN (h : P.rt .non) : XS X S U g (.Return none pos) P :=
  psI ps_retN fun E σ H ⟨B, M, st, c, _⟩ => c.rt _ H _ h st.same .non
theorem s_expr (he : XE X S g e d) (h : P.nx g) (hs : swapsWith e none pos.line X.env = pure false := by rfl) : XS X S U g (.Expr e pos) P :=
  psI (ps_expr he hs) fun E σ H ⟨B, M, st, c, _⟩ => ⟨B, M, st, fun v H1 e1 r => c.nx _ M _ H1 h (st.mono e1)⟩
theorem s_pass (h : P.nx g) : XS X S U g (.Pass pos) P := psI ps_pass fun E σ H ⟨B, M, st, c, _⟩ => c.nx _ _ _ _ h st
theorem s_break (h : P.bk g) : XS X S U g (.Break pos) P := psI ps_break fun E σ H ⟨B, M, st, c, _⟩ => c.bk _ _ _ _ h st
theorem s_cont (h : P.ct g) : XS X S U g (.Continue pos) P := psI ps_continue fun E σ H ⟨B, M, st, c, _⟩ => c.ct _ _ _ _ h st
theorem s_if (hc : XT X S g c b) (h1 : b = true → XB X S U g body P) (h2 : b = false → XB X S U g orelse P) : XS X S U g (.If c body orelse pos) P := by
  cases b with
  | true => exact psI (ps_if hc (h1 rfl) (pss_never (sts := orelse))) fun E σ H ⟨B, M, st, c, x⟩ => ⟨B, M, st, fun H1 e1 => by refine iteT ?_; exact ⟨B, M, st.mono e1, c, x⟩⟩
  | false => exact psI (ps_if hc (pss_never (sts := body)) (h2 rfl)) fun E σ H ⟨B, M, st, c, x⟩ => ⟨B, M, st, fun H1 e1 => by refine iteF ?_; exact ⟨B, M, st.mono e1, c, x⟩⟩
theorem b_freeze {sts : List Stmt} (i : Nat) (hi : g[i]? = some (.own ds)) (h : XB X S U (g.set i (.v (.lst ds))) sts P) : XB X S U g sts P :=
  psbI h fun E σ H ⟨B, M, st, c, x⟩ => let ⟨M', st'⟩ := st.freeze hi; ⟨B, M', st', c, x⟩
theorem s_retOwn (N : Nm X i x) (hi : g[i]? = some (.own ds)) (h : P.rt (.lst ds)) {pos' : Pos} : XS X S U g (.Return (some (.Name x pos)) pos') P :=
  psI (ps_ret (pe_var N.n N.vis N.dbg N.cdt)) fun E σ H ⟨B, M, st, c, x⟩ => by
    obtain ⟨l, vs, ht, hm, h0, hl, r⟩ := st.own hi
    exact ⟨.ref l, ht, c.rt _ H _ h st.same (.lst (SqL.of (hid_of h0 hl)) (r.mono st.out))⟩

/-! ### targets -/
theorem g_name (C : Kb X W S) (N : Nl X i x) : XG X S g (.Name x pos) d (g.set i (.v d)) :=
  pgI (pg_name C.nd N.n N.loc N.fn) fun v σ H Q ⟨B, M, st, r, kk⟩ => kk _ (st.set i r)
theorem gs_nil : XGs X S g [] [] g := pgsI pgs_nil fun vs σ H Q ⟨B, M, st, r, kk⟩ => by
  cases r
  exact ⟨rfl, kk _ st⟩
theorem gs_cons {es : List Expr} {g2 : En} (h : XG X S g e d g') (t : XGs X S g' es ds g2) (hs : (assignEach (e :: es) X.env).map (·.2) = assign e X.env :: (assignEach es X.env).map (·.2) := by rfl) : XGs X S g (e :: es) (d :: ds) g2 :=
  pgsI (pgs_cons h t hs) fun vs σ H Q ⟨B, M, st, r, kk⟩ => by
    cases r with
    | cons r rr => exact ⟨_, _, rfl, B, M, st, r, fun t' st' => ⟨B, M, st', rr, fun t2 st2 => kk t2 st2⟩⟩
theorem g_tup {es : List Expr} {z : Nat} (C : Cc X W S k) (h : XGs X S g es ds g') (hn : (assignEach es X.env).length = ds.length := by rfl) (hst : (assignEach es X.env).findIdx? (·.1) = none := by rfl) : XG X S g (.Tuple es z pos) (.tup ds) g' :=
  pgI (pg_tup C.calm h hn hst) fun v σ H Q ⟨B, M, st, r, kk⟩ => by
    cases r with
    | tup hq rr => exact ⟨_, _, rfl, hid_t (by rw [C.kk]; exact hq), rr.length, B, M, st, rr, kk⟩

/-! ### while -/
theorem s_while (C : Kb X W S) (I : Nat → En → Prop) (m : Nat) (h0 : I m g)
    (hs : ∀ m g', I m g' → ∃ b, XT X S g' c b ∧ (b = true → XB X S U g' body { P with nx := fun g2 => ∃ m', m' < m ∧ I m' g2, ct := fun g2 => ∃ m', m' < m ∧ I m' g2, bk := P.nx }) ∧ (b = false → P.nx g')) : XS X S U g (.While c body [] pos) P := by
  have hc : PT X c (fun t H Q => ∃ g' b B M, XT X S g' c b ∧ Stt S B M g' t H ∧ ∀ H', Same H H' → Q b H') := ⟨fun pins s σ H Q I ⟨g', b, B, M, hx, st, kk⟩ => hx.run pins s σ H Q I ⟨B, M, st, kk⟩⟩
  have hb : PSs X body (fun E t H => ∃ g' P', XB X S U g' body P' ∧ ∃ B M, Stt S B M g' t H ∧ Ct S B U P' E ∧ Cx' S B U P') := ⟨fun pins s σ H E I ⟨g', P', hx, w⟩ => hx.run pins s σ H E I w⟩
  refine psI (ps_while C.own hc hb) fun E σ H ⟨B, M, st, c, x⟩ => ?_
  refine ⟨fun m t H => ∃ g' M, I m g' ∧ Stt S B M g' t H, ⟨m, g, M, h0, st⟩, ?_⟩
  rintro m t H ⟨g', M, hI, st⟩
  obtain ⟨b, hx, h1, h2⟩ := hs m g' hI
  refine ⟨g', b, B, M, hx, st, fun H1 e1 => ?_⟩
  cases b with
  | true =>
    refine iteT ⟨fun t2 H2 => ∃ m' g2 M2, m' < m ∧ I m' g2 ∧ Stt S B M2 g2 t2 H2, fun t2 H2 ⟨m', g2, M2, a1, a2, a3⟩ => ⟨m', a1, g2, M2, a2, a3⟩, g', _, h1 rfl, B, M, st.mono e1, ⟨?_, c.rt, c.nx, ?_⟩, x⟩
    · rintro g2 M2 t2 H2 ⟨m', a1, a2⟩ st2
      exact ⟨m', g2, M2, a1, a2, st2⟩
    · rintro g2 M2 t2 H2 ⟨m', a1, a2⟩ st2
      exact ⟨m', g2, M2, a1, a2, st2⟩
  | false => exact iteF (c.nx _ _ _ _ (h2 rfl) (st.mono e1))
end

/-! ### walks -/
structure Walks (S : Sg) (J : It) (Gh : Hp → Prop) (n : Nat) (it : Nat → D) : Prop where
  mono : ∀ H H', Same H H' → Gh H → Gh H'
  go : ∀ M i H, Gh (hid M H) → i < n → J.go i H
  stop : ∀ M i H, Gh (hid M H) → n ≤ i → J.stop i H
  yld : ∀ M i H x H', (∀ a ∈ M, H a ≠ none) → Gh (hid M H) → i < n → J.yld i H x H' → Same H H' ∧ Rep S (hid M H') x (it i)
/-- iter, walked with the target tg, gives n items -/
def XI (X : Cx) (S : Sg) (g : En) (tg iter : Expr) (n : Nat) (it : Nat → D) : Prop := PI X tg iter fun t H R => ∃ B M, Stt S B M g t H ∧ ∀ J Gh H', Same H H' → Walks S J Gh n it → Gh (hid M H') → R J H'
theorem piI {X : Cx} {tg e : Expr} {w w' : TI} (h : PI X tg e w) (k : ∀ σ H R, w' σ H R → w σ H R) : PI X tg e w' := ⟨fun pins s σ H R I q => h.run pins s σ H R I (k _ _ _ q)⟩

section
variable {X : Cx} {W : Wd} {S : Sg} {U : WX} {k : Nat} {g g' : En} {P : Po} {e c tg iter : Expr} {es : List Expr} {st : Stmt} {rest body : List Stmt} {d : D} {ds : List D} {x : Str} {i n : Nat} {pos p : Pos} {b : Bool} {it : Nat → D}
def itOf (ds : List D) (i : Nat) : D := ds.getD i .non
theorem itOf_get {ds : List D} {i : Nat} (h : i < ds.length) : ds[i]? = some (itOf ds i) := by
  unfold itOf
  rw [List.getD_eq_getElem?_getD, List.getElem?_eq_getElem h]
  rfl
theorem walks_list {a : Addr} {vs : List V} : Walks S (Itl S.K a) (fun H => SqL S.K H a vs ∧ Reps S H vs ds) ds.length (itOf ds) where
  mono := fun H H' e ⟨h1, h2⟩ => ⟨Evl.ex_l e h1, h2.mono e⟩
  go := fun M i H ⟨h1, h2⟩ hi => by
    have hv : i < vs.length := by rw [h2.length]; exact hi
    exact ⟨vs, vs[i], hid_l h1, List.getElem?_eq_getElem hv⟩
  stop := fun M i H ⟨h1, h2⟩ hi => ⟨vs, hid_l h1, by rw [h2.length]; exact hi⟩
  yld := fun M i H x H' _ ⟨h1, h2⟩ hi ⟨e, y⟩ => by
    subst e
    have hx := y vs (hid_l h1)
    obtain ⟨v, hv, r⟩ := h2.get (itOf_get hi)
    rw [hx] at hv
    cases hv
    exact ⟨Same.refl _, r⟩
theorem walks_tup {a : Addr} {vs : List V} : Walks S (Itt S.K a) (fun H => SqT S.K H a vs ∧ Reps S H vs ds) ds.length (itOf ds) where
  mono := fun H H' e ⟨h1, h2⟩ => ⟨Evl.ex_t e h1, h2.mono e⟩
  go := fun M i H ⟨h1, h2⟩ hi => by
    have hv : i < vs.length := by rw [h2.length]; exact hi
    exact ⟨vs, vs[i], hid_t h1, List.getElem?_eq_getElem hv⟩
  stop := fun M i H ⟨h1, h2⟩ hi => ⟨vs, hid_t h1, by rw [h2.length]; exact hi⟩
  yld := fun M i H x H' _ ⟨h1, h2⟩ hi ⟨e, y⟩ => by
    subst e
    have hx := y vs (hid_t h1)
    obtain ⟨v, hv, r⟩ := h2.get (itOf_get hi)
    rw [hx] at hv
    cases hv
    exact ⟨Same.refl _, r⟩
theorem walks_rng {lo : Int} {n : Nat} : Walks S (Itr lo n) (fun _ => True) n (fun i => .int (lo + i)) where
  mono := fun _ _ _ _ => trivial
  go := fun _ i _ _ hi => hi
  stop := fun _ i _ _ hi => hi
  yld := fun M i H x H' _ _ hi ⟨e, y⟩ => by
    subst e
    subst y
    exact ⟨Same.refl _, .int _⟩
theorem walks_enum {a : Addr} {vs : List V} : Walks S (Ite S.K a) (fun H => SqL S.K H a vs ∧ Reps S H vs ds) ds.length (fun i => .tup [.int i, itOf ds i]) where
  mono := fun H H' e ⟨h1, h2⟩ => ⟨Evl.ex_l e h1, h2.mono e⟩
  go := fun M i H ⟨h1, h2⟩ hi => by
    have hv : i < vs.length := by rw [h2.length]; exact hi
    exact ⟨vs, vs[i], hid_l h1, List.getElem?_eq_getElem hv⟩
  stop := fun M i H ⟨h1, h2⟩ hi => ⟨vs, hid_l h1, by rw [h2.length]; exact hi⟩
  yld := fun M i H x H' tr ⟨h1, h2⟩ hi ⟨T, y, e1, e2, e3, e4⟩ => by
    subst e1
    subst e3
    obtain ⟨v, hv, r⟩ := h2.get (itOf_get hi)
    rw [e4 vs (hid_l h1)] at hv
    cases hv
    have nT : T ∉ M := fun z => tr T z e2
    exact ⟨same_upd e2, .tup (SqT.of (hid_of nT upd_same)) (.cons (.int _) (.cons (r.mono (hid_same (same_upd e2))) .nil))⟩
theorem i_list (C : Kb X W S) (h : XE X S g iter (.lst ds)) : XI X S g tg iter ds.length (itOf ds) :=
  piI (pi_list h) fun σ H R ⟨B, M, st, kk⟩ => ⟨B, M, st, fun v H1 e1 r => by
    cases r with
    | lst hq rr =>
      have hq' := hq
      rw [← C.kk] at hq'
      refine ⟨_, rfl, ⟨_, hid_l hq'⟩, ?_⟩
      rw [C.kk]
      exact kk _ _ H1 e1 walks_list ⟨hq, rr⟩⟩
theorem i_tup (C : Kb X W S) (h : XE X S g iter (.tup ds)) : XI X S g tg iter ds.length (itOf ds) :=
  piI (pi_tup h) fun σ H R ⟨B, M, st, kk⟩ => ⟨B, M, st, fun v H1 e1 r => by
    cases r with
    | tup hq rr =>
      have hq' := hq
      rw [← C.kk] at hq'
      refine ⟨_, rfl, ⟨_, hid_t hq'⟩, ?_⟩
      rw [C.kk]
      exact kk _ _ H1 e1 walks_tup ⟨hq, rr⟩⟩
theorem i_range1 {j : Int} (G : Ng X "range") (hm : X.mg "range" = none) (ha : XA X S g [e] [.int j]) (h : -(2 ^ 62) ≤ j ∧ j < 2 ^ 62) (hs : starEach [e] X.env = [(false, eval e X.env)] := by rfl) : XI X S g tg (.Call (.Name "range" p) [e] [] pos) j.toNat (fun i => .int (0 + i)) :=
  piI (pi_range1 G.gl hm ha (hs := hs)) fun σ H R ⟨B, M, st, kk⟩ => ⟨B, M, st, fun vs H1 e1 r => by
    obtain ⟨x, e, q⟩ := r.one
    cases e
    cases q
    exact ⟨j, rfl, h.1, h.2, kk _ _ H1 e1 walks_rng trivial⟩⟩
theorem i_range2 {i j : Int} {e2 : Expr} (G : Ng X "range") (hm : X.mg "range" = none) (ha : XA X S g [e, e2] [.int i, .int j]) (h : -(2 ^ 62) ≤ i ∧ i < 2 ^ 62 ∧ -(2 ^ 62) ≤ j ∧ j < 2 ^ 62) (hs : starEach [e, e2] X.env = [(false, eval e X.env), (false, eval e2 X.env)] := by rfl) (hs2 : starEach [e2] X.env = [(false, eval e2 X.env)] := by rfl) :
    XI X S g tg (.Call (.Name "range" p) [e, e2] [] pos) (j - i).toNat (fun n => .int (i + n)) :=
  piI (pi_range2 G.gl hm ha (hs := hs) (hs2 := hs2)) fun σ H R ⟨B, M, st, kk⟩ => ⟨B, M, st, fun vs H1 e1 r => by
    obtain ⟨x, y, e, q1, q2⟩ := r.two
    cases e
    cases q1
    cases q2
    exact ⟨i, j, rfl, h, kk _ _ H1 e1 walks_rng trivial⟩⟩
theorem i_enum {elts : List Expr} {z : Nat} {tpos : Pos} (C : Kb X W S) (G : Ng X "enumerate") (hm : X.mg "enumerate" = none) (ha : XA X S g [e] [.lst ds]) (hs : starEach [e] X.env = [(false, eval e X.env)] := by rfl) :
    XI X S g (.Tuple elts z tpos) (.Call (.Name "enumerate" p) [e] [] pos) ds.length (fun i => .tup [.int i, itOf ds i]) :=
  piI (pi_enum G.gl hm ha hs) fun σ H R ⟨B, M, st, kk⟩ => ⟨B, M, st, fun vs H1 e1 r => by
    obtain ⟨x, e, q⟩ := r.one
    cases e
    cases q with
    | lst hq rr =>
      have hq' := hq
      rw [← C.kk] at hq'
      refine ⟨_, _, rfl, hid_l hq', ?_⟩
      rw [C.kk]
      exact kk _ _ H1 e1 walks_enum ⟨hq, rr⟩⟩

/-- what is kept besides the slots grows -/
def Bs.more (B : Bs) (Gh : Hp → Prop) (m : ∀ H H', Same H H' → Gh H → Gh H') : Bs := ⟨B.H0, B.M0, fun H => B.G H ∧ Gh H, fun H H' e ⟨h1, h2⟩ => ⟨B.gm H H' e h1, m H H' e h2⟩⟩
theorem Stt.more {B : Bs} {M : List Addr} {t : L2.St} {H : Hp} {Gh : Hp → Prop} (m : ∀ H H', Same H H' → Gh H → Gh H') (h : Stt S B M g t H) (q : Gh (hid M H)) : Stt S (B.more Gh m) M g t H := ⟨h.same, h.sub, h.new, h.trk, h.sl, ⟨h.gh, q⟩, h.apart⟩
theorem Stt.less {B : Bs} {M : List Addr} {t : L2.St} {H : Hp} {Gh : Hp → Prop} {m : ∀ H H', Same H H' → Gh H → Gh H'} (h : Stt S (B.more Gh m) M g t H) : Stt S B M g t H := ⟨h.same, h.sub, h.new, h.trk, h.sl, h.gh.1, h.apart⟩
theorem Ct.more {B : Bs} {E : Ends} {Gh : Hp → Prop} {m : ∀ H H', Same H H' → Gh H → Gh H'} (c : Ct S B U P E) : Ct S (B.more Gh m) U P E :=
  ⟨fun g M t H z st => c.nx g M t H z st.less, c.rt, fun g M t H z st => c.bk g M t H z st.less, fun g M t H z st => c.ct g M t H z st.less⟩

/-- for: I by the turn -/
theorem s_for (C : Cc X W S k) (hi : XI X S g tg iter n it) (I : Nat → En → Prop) (h0 : I 0 g)
    (hs : ∀ i g1, i < n → I i g1 → ∃ g2, XG X S g1 tg (it i) g2 ∧ XB X S U g2 body { P with nx := I (i + 1), ct := I (i + 1), bk := P.nx }) (hd : ∀ g1, I n g1 → P.nx g1)
    (hf : ∀ x, foldedSetIterable iter X.env x = pure x := by intro _; rfl) : XS X S U g (.For tg iter body [] pos) P := by
  have hg : PG X tg (fun v t H Q => ∃ g1 d g2, XG X S g1 tg d g2 ∧ ∃ B M, Stt S B M g1 t H ∧ Rep S (hid M H) v d ∧ ∀ t', Stt S B M g2 t' H → Q t' H) := ⟨fun pins s σ H v u Q I r ⟨g1, d, g2, hx, w⟩ => hx.run pins s σ H v u Q I r w⟩
  have hb : PSs X body (fun E t H => ∃ g' P', XB X S U g' body P' ∧ ∃ B M, Stt S B M g' t H ∧ Ct S B U P' E ∧ Cx' S B U P') := ⟨fun pins s σ H E I ⟨g', P', hx, w⟩ => hx.run pins s σ H E I w⟩
  refine psI (ps_for C.own C.calm hi hg hb hf) fun E σ H ⟨B, M, st, c, x⟩ => ⟨B, M, st, fun J Gh H' e1 wk hG => ?_⟩
  refine ⟨fun i m t H => m = n - i ∧ i ≤ n ∧ ∃ g1 M1, I i g1 ∧ Stt S (B.more Gh wk.mono) M1 g1 t H, ⟨n, by simp, Nat.zero_le _, g, M, h0, (st.mono e1).more wk.mono hG⟩, ?_⟩
  rintro i m t H1 ⟨rfl, hin, g1, M1, hI, st1⟩
  by_cases hlt : i < n
  · refine .inr ⟨wk.go M1 i H1 st1.gh.2 hlt, fun t2 H2 => ∃ g2 M2, I (i + 1) g2 ∧ Stt S (B.more Gh wk.mono) M2 g2 t2 H2, fun t2 H2 w => ⟨n - (i + 1), by omega, rfl, hlt, w⟩, fun y H2 hy => ?_⟩
    obtain ⟨e2, r⟩ := wk.yld M1 i H1 y H2 st1.trk st1.gh.2 hlt hy
    obtain ⟨g2, hx, hB⟩ := hs i g1 hlt hI
    refine ⟨g1, _, g2, hx, _, M1, st1.mono e2, r, fun t' st' => ⟨g2, _, hB, _, M1, st', ⟨fun g3 M3 t3 H3 z q => ⟨g3, M3, z, q⟩, c.rt, fun g3 M3 t3 H3 z q => c.nx _ _ _ _ z q.less, fun g3 M3 t3 H3 z q => ⟨g3, M3, z, q⟩⟩, fun c' fs dx ws g3 M3 t3 H3 z q => x c' fs dx ws g3 M3 t3 H3 z q.less⟩⟩
  · have e : i = n := by omega
    subst e
    exact .inl ⟨wk.stop M1 i H1 st1.gh.2 (Nat.le_refl _), c.nx _ _ _ _ (hd g1 hI) st1.less⟩
end

/-! ### one's own lists -/
section
variable {X : Cx} {W : Wd} {S : Sg} {U : WX} {k : Nat} {g : En} {P : Po} {e : Expr} {d : D} {ds : List D} {x : Str} {i n : Nat} {j : Int} {pos p apos cpos : Pos}
theorem s_app (C : Kb X W S) (N : Nm X i x) (hi : g[i]? = some (.own ds)) (he : XE X S g e d) (hz : ds.length < 100000) (h : P.nx (g.set i (.own (ds ++ [d]))))
    (hline : (apos.endLine == cpos.line) = true := by rfl) (hs1 : starEach [e] X.env = (false, eval e X.env) :: starEach [] X.env := by rfl)
    (hs : swapsWith (.Call (.Attribute (.Name x p) "append" apos) [e] [] cpos) none pos.line X.env = pure false := by rfl) : XS X S U g (.Expr (.Call (.Attribute (.Name x p) "append" apos) [e] [] cpos) pos) P := by
  have ha : XA X S g [e] [d] := a_cons he a_nil hs1
  have hfew : ((backTo cpos (starEach [e] X.env)).all (fun x => !x.1) && (backToKw cpos (keywordEach [] X.env)).all (fun x => x.1.isSome) && decide ([e].length + ([] : List Keyword).length + (if ([] : List Keyword).isEmpty then 0 else 1) < 30)) = true := by
    rw [hs1]
    rfl
  refine psI (ps_expr (pe_bm PySem.F.plainAttrs_list PySem.F.slot_list_append PySem.F.type_list_append mt_append (pe_var N.n N.vis N.dbg N.cdt) ha rfl hfew hline hs1 rfl) hs) fun E σ H ⟨B, M, st, c, _⟩ => ?_
  obtain ⟨l, vs, ht, hm, h0, hl, r⟩ := st.own hi
  refine ⟨.ref l, ht, .inl ⟨rfl, vs, SqL.of hl⟩, B, M, st, fun ws H1 e1 rw => ?_⟩
  obtain ⟨y, e2, ry⟩ := rw.one
  subst e2
  refine ⟨l, vs, y, rfl, rfl, e1 _ _ hl, by rw [r.length]; exact Evl.sz_lt hz, c.nx _ _ _ _ h ((st.mono e1).upOwn hi ht hm h0 (e1 _ _ hl) ((r.mono (hid_same e1)).append (.cons ry .nil)))⟩
theorem e_lenOwn (C : Kb X W S) (N : Nm X i x) (hi : g[i]? = some (.own ds)) (G : Ng X "len") (hm : X.mg "len" = none) : XE X S g (.Call (.Name "len" p) [.Name x apos] [] pos) (.int (ds.length : Int)) :=
  peI (pe_callB call_len_seq G.gl hm PySem.boot_len (pa_cons (pe_var N.n N.vis N.dbg N.cdt) pa_nil)) fun σ H Q ⟨B, M, st, kk⟩ => by
    obtain ⟨l, vs, ht, hm, h0, hl, r⟩ := st.own hi
    refine ⟨.ref l, ht, l, vs, rfl, .inl (SqL.of hl), ?_⟩
    rw [r.length]
    exact kk _ H (Same.refl H) (.int _)
theorem e_ixOwn (C : Kb X W S) (N : Nm X i x) (hi : g[i]? = some (.own ds)) (he : XE X S g e (.int j)) (h : atI ds j = some d) (hs : PlainIx e := by exact fun _ _ => rfl) : XE X S g (.Subscript (.Name x p) e pos) d :=
  peI (pe_ix ix_list (pe_var N.n N.vis N.dbg N.cdt) he hs) fun σ H Q ⟨B, M, st, kk⟩ => by
    obtain ⟨l, vs, ht, hm, h0, hl, r⟩ := st.own hi
    refine ⟨.ref l, ht, B, M, st, fun v H1 e1 rv => ?_⟩
    cases rv
    obtain ⟨u, hu, ru⟩ := reps_at r h
    exact ⟨l, vs, j, u, rfl, rfl, SqL.of (e1 _ _ hl), hu, kk u H1 e1 (ru.mono (hid_same e1))⟩
theorem t_truOwn (C : Kb X W S) (N : Nm X i x) (hi : g[i]? = some (.own ds)) : XT X S g (.Name x pos) (!ds.isEmpty) :=
  ptI (pt_truth (pe_var N.n N.vis N.dbg N.cdt) fun _ => rfl) fun σ H Q ⟨B, M, st, kk⟩ => by
    obtain ⟨l, vs, ht, hm, h0, hl, r⟩ := st.own hi
    refine ⟨.ref l, ht, _, .inl ⟨vs, SqL.of hl, rfl⟩, ?_⟩
    rw [reps_empty r]
    exact kk H (Same.refl H)
end

/-! ### a def keeps its promise -/
def poOf : Out → Po
  | .ok d => { nx := fun _ => d = .non, rt := fun d' => d' = d }
  | .err c fs => { nx := fun _ => False, rt := fun _ => False, ex := fun c' fs' _ => c' = c ∧ fs' = fs }
theorem start_get {N : List Str} {vs : List V} {i : Nat} {v : V} (h : vs[i]? = some v) : (L2.start N vs)[i]? = some (some v) := by
  have hi : i < vs.length := (List.getElem?_eq_some_iff.mp h).1
  unfold L2.start
  rw [List.getElem?_append_left (by simpa using hi), List.getElem?_map, h]
  rfl
def enOf (n : Nat) (ds : List D) : En := ds.map .v ++ List.replicate (n - ds.length) .no
theorem stt_start {S : Sg} {M : List Addr} {H : Hp} {N : List Str} {vs : List V} {ds : List D} (tr : ∀ a ∈ M, H a ≠ none) (r : Reps S (hid M H) vs ds) :
    Stt S ⟨H, M, fun _ => True, fun _ _ _ _ => trivial⟩ M (enOf N.length ds) (L2.start N vs) H where
  same := Same.refl H
  sub := fun _ h => h
  new := fun _ h => .inl h
  trk := tr
  sl := fun i s hi => by
    unfold enOf at hi
    by_cases hl : i < ds.length
    · rw [List.getElem?_append_left (by simpa using hl), List.getElem?_map] at hi
      cases e : ds[i]? with
      | none => rw [e] at hi; cases hi
      | some d =>
        rw [e] at hi
        have hs := Option.some.inj hi
        subst hs
        obtain ⟨v, hv, rv⟩ := r.get e
        exact ⟨some v, start_get hv, v, rfl, rv⟩
    · rw [List.getElem?_append_right (by simpa using hl), List.getElem?_replicate] at hi
      split at hi
      · rename_i hc
        have hs := Option.some.inj hi
        subst hs
        rw [List.length_map] at hc
        refine ⟨none, ?_, trivial⟩
        unfold L2.start
        have hr := r.length
        rw [List.getElem?_append_right (by rw [List.length_map]; omega), List.getElem?_replicate, List.length_map, if_pos (by omega)]
      · cases hi
  gh := trivial
  apart := fun i j s u v hij h1 _ m1 _ _ _ => by
    unfold enOf at h1
    by_cases hl : i < ds.length
    · rw [List.getElem?_append_left (by simpa using hl), List.getElem?_map] at h1
      cases e : ds[i]? with
      | none => rw [e] at h1; cases h1
      | some d =>
        rw [e] at h1
        have q := Option.some.inj h1
        subst q
        cases m1
    · rw [List.getElem?_append_right (by simpa using hl), List.getElem?_replicate] at h1
      split at h1
      · have q := Option.some.inj h1
        subst q
        cases m1
      · cases h1

/-- the names of a body -/
structure In0 (X : Cx) (W : Wd) (S : Sg) (N : List Str) (sc : Scope) : Prop extends Kb X W S where
  N : X.N = N
  sc : X.env.scope = sc
  fn : ∀ x, X.fn x = true
/-- the body of a def: what its proof may use -/
structure InB (X : Cx) (W : Wd) (S : Sg) (k : Nat) (N : List Str) (sc : Scope) (U : WX) : Prop extends In0 X W S N sc where
  C : Cc X W S k
  tk : L2N.Takes X U
  fr : X.stack = X.env :: X.outer ∧ X.env.frame = some X.env.locals
/-- .. while an exception is handled -/
structure InH (X : Cx) (W : Wd) (S : Sg) (k : Nat) (N : List Str) (sc : Scope) : Prop extends In0 X W S N sc where
  C : Hc X W S k
section
variable {X : Cx} {W : Wd} {S : Sg} {k : Nat} {N : List Str} {sc : Scope}
theorem In0.nm (b : In0 X W S N sc) (i : Nat) (x : Str) (h : N[i]? = some x) (hv : sc.names.lookup x = some .local ∨ sc.names.lookup x = some .cell)
    (h1 : (x == ("__debug__" : Str)) = false) (h2 : (x == ("__classdict__" : Str)) = false) : Nm X i x ∧ Nl X i x :=
  ⟨⟨by rw [b.N]; exact h, by unfold Vis; rw [b.sc]; exact hv.elim .inl fun z => .inr (.inl z), h1, h2⟩, ⟨by rw [b.N]; exact h, by unfold L2.Loc; rw [b.sc]; exact hv, .inl (b.fn x)⟩⟩
theorem In0.ng (b : In0 X W S N sc) (x : Str) (h : sc.names.lookup x = some .globalImplicit) (h1 : (x == ("__debug__" : Str)) = false) : Ng X x :=
  ⟨by show X.env.scope.names.lookup x = _; rw [b.sc]; exact h, h1⟩
theorem Kb.mg (b : Kb X W S) {x : Str} {o : Option Value} (h : W.mg x = o) : X.mg x = o := (congrArg (fun w => Wd.mg w x) b.wd).trans h
end

/-- a def as it stands: dvs its defaults -/
abbrev Fd (K : PySem.W.Frag) (x qual : Str) (st : Stmt) (dvs : List V) (f : Addr) (fd : FuncData) : Prop := FunD K x qual (defArgs st) (defBody st) (defScope st) dvs [] f fd
theorem def_ok {W : Wd} {S : Sg} {x qual : Str} {st : Stmt} {dvs : List V} {f : Addr} {fd : FuncData} {N ps : List Str} {k : Nat} {R : List D → Out → Prop} (F : Fd W.K x qual st dvs f fd) (hK : W.K = S.K) (sc : FnScope N ps (defScope st))
    (hlen : ∀ ds o, R ds o → ds.length = ps.length)
    (body : ∀ (X : Cx) (U : WX) (ds : List D) (o : Out), InB X W S k N (defScope st) U → R ds o → XB X S U (enOf N.length ds) (defBody st) (poOf o)) :
    FnOk W.P W.w W.K W.mg W.base (L2N.CX W.P W.w) (k + 1) f fd ps (spOf S ps.length R) := by
  obtain ⟨oc, od, dV, kV, doc, pm, an, cdv, ct, osl, rfl, lk, hcd, _, _⟩ := F.ex
  refine fn_of lk hcd sc (fun vs H Q E h => h.1) (fun A outer s H vs Q E hr h => ?_)
  obtain ⟨hl, M, ds, o, tr, r, hR, ho⟩ := h
  refine ⟨_, body _ (fun cls d _ H => E cls d H) ds o ⟨⟨⟨rfl, hK, passes_of rfl, sc.nd⟩, rfl, rfl, fun _ => rfl⟩, ⟨⟨rfl, hK, passes_of rfl, sc.nd⟩, rfl, hr⟩, L2N.takes_of rfl rfl rfl rfl, rfl, rfl⟩ hR, ?_⟩
  refine ⟨⟨H, M, fun _ => True, fun _ _ _ _ => trivial⟩, M, stt_start tr r, ?_, ?_⟩
  · cases o with
    | ok d =>
      refine ⟨fun g M' t H' hz st => ?_, fun v H' d' hz e r' => ?_, fun _ _ _ _ z => z.elim, fun _ _ _ _ z => z.elim⟩
      · have hz' : d = .non := hz
        subst hz'
        exact ho .non H' st.same .non
      · have hz' : d' = d := hz
        subst hz'
        exact ho v H' e r'
    | err c fs => exact ⟨fun _ _ _ _ z => z.elim, fun _ _ _ z => z.elim, fun _ _ _ _ z => z.elim, fun _ _ _ _ z => z.elim⟩
  · intro c fs dx ws g M' t H' hx st hn hd rf
    cases o with
    | ok d => exact hx.elim
    | err c' fs' =>
      obtain ⟨rfl, rfl⟩ := hx
      exact ho dx ws H' st.same hn hd (rf.mono st.out)
/-- a def as it is called while an exception is handled (it raises nothing) -/
theorem def_hot {W : Wd} {S : Sg} {x qual : Str} {st : Stmt} {dvs : List V} {f : Addr} {fd : FuncData} {N ps : List Str} {k : Nat} {R : List D → Out → Prop} (F : Fd W.K x qual st dvs f fd) (hK : W.K = S.K) (sc : FnScope N ps (defScope st))
    (hR0 : ∀ ds o, R ds o → ∃ d, o = .ok d)
    (body : ∀ (X : Cx) (U : WX) (ds : List D) (o : Out), InH X W S k N (defScope st) → R ds o → XB X S U (enOf N.length ds) (defBody st) (poOf o)) :
    L2H.FnH W.P W.w W.K W.mg W.base (L2N.CX W.P W.w) (k + 1) f fd ps (spOf S ps.length R) := by
  obtain ⟨oc, od, dV, kV, doc, pm, an, cdv, ct, osl, rfl, lk, hcd, _, _⟩ := F.ex
  refine L2H.fn_ofH lk hcd sc (fun vs H Q E h => h.1) (fun A outer s H vs Q E p hot hr h => ?_)
  obtain ⟨hl, M, ds, o, tr, r, hR, ho⟩ := h
  refine ⟨_, body _ (fun _ _ _ _ => True) ds o ⟨⟨⟨rfl, hK, passes_of rfl, sc.nd⟩, rfl, rfl, fun _ => rfl⟩, ⟨⟨rfl, hK, passes_of rfl, sc.nd⟩, ⟨p, ⟨hot.1, hot.2⟩, List.mem_cons_self⟩, hr⟩⟩ hR, ?_⟩
  obtain ⟨d, rfl⟩ := hR0 ds o hR
  refine ⟨⟨H, M, fun _ => True, fun _ _ _ _ => trivial⟩, M, stt_start tr r, ?_, ?_⟩
  · refine ⟨fun g M' t H' hz st => ?_, fun v H' d' hz e r' => ?_, fun _ _ _ _ z => z.elim, fun _ _ _ _ z => z.elim⟩
    · have hz' : d = .non := hz
      subst hz'
      exact ho .non H' st.same .non
    · have hz' : d' = d := hz
      subst hz'
      exact ho v H' e r'
  · intro c fs dx ws g M' t H' hx
    exact hx.elim
end Fw

set_option Elab.async false
set_option linter.all false
set_option maxRecDepth 100000
set_option maxHeartbeats 4000000
namespace Fw
open PySem L2
section
variable {X : Cx} {W : Wd} {S : Sg} {U : WX} {k : Nat} {g g' : En} {P : Po} {a b : Expr} {d e : D} {x y : Str} {i j : Nat} {pos px py pt : Pos} {N : List Str} {sc : Scope}
theorem Stt.set2 {B : Bs} {M : List Addr} {t : L2.St} {H : Hp} (h : Stt S B M g t H) {v w : V} (rv : Rep S (hid M H) v d) (rw' : Rep S (hid M H) w e) : Stt S B M ((g.set i (.v d)).set j (.v e)) ((t.set i (some v)).set j (some w)) H :=
  (h.set i rv).set j rw'
/-- a, b = x, y with plain local names -/
theorem s_par {kt k2 : Nat} {pt2 : Pos} (b' : InB X W S k N sc U) (Nx : Nl X i x) (Ny : Nl X j y) (ha : XE X S g a d) (hb : XE X S g b e) (h : P.nx ((g.set i (.v d)).set j (.v e)))
    (hx : sc.names.lookup x = some .local := by rfl) (hy : sc.names.lookup y = some .local := by rfl) (hij : i ≠ j := by decide)
    (hw : ∀ env : Env, env.scope = sc → swappedStores [.Tuple [.Name x px, .Name y py] kt pt] (.Tuple [a, b] k2 pt2) env = pure (some [x, y]) := by exact (fun env h => by cases env; cases h; rfl))
    (hs : swapsWithSole [.Tuple [.Name x px, .Name y py] kt pt] (.Tuple [a, b] k2 pt2) pos.line X.env = pure false := by rfl)
    (h1 : starEach [a, b] X.env = (false, eval a X.env) :: starEach [b] X.env := by rfl) (h2 : starEach [b] X.env = (false, eval b X.env) :: starEach [] X.env := by rfl) :
    XS X S U g (.Assign [.Tuple [.Name x px, .Name y py] kt pt] (.Tuple [a, b] k2 pt2) pos) P :=
  psI (ps_par b'.C.calm b'.nd Nx.n Ny.n hij (by rw [b'.sc]; exact hx) (by rw [b'.sc]; exact hy) (a_cons ha (a_cons hb a_nil h2) h1) (hw _ b'.sc) hs) fun E σ H ⟨B, M, st, c, _⟩ => ⟨B, M, st, fun vs H1 e1 r => by
    obtain ⟨v, w, e2, r1, r2⟩ := r.two
    exact ⟨v, w, e2, c.nx _ M _ H1 h ((st.mono e1).set2 r1 r2)⟩⟩
end
end Fw

set_option Elab.async false
set_option linter.all false
set_option maxRecDepth 100000
set_option maxHeartbeats 4000000
namespace Fw
open PySem L2

/-! ### field lists -/
section
variable {S : Sg} {H : Hp}
theorem RepF.append : ∀ {a : List (Str × V)} {b : List (Str × D)} {c : List (Str × V)} {d : List (Str × D)}, RepF S H a b → RepF S H c d → RepF S H (a ++ c) (b ++ d)
  | _, _, _, _, .nil, s => s
  | _, _, _, _, .cons h t, s => .cons h (RepF.append t s)
theorem RepF.rev : ∀ {a : List (Str × V)} {b : List (Str × D)}, RepF S H a b → RepF S H a.reverse b.reverse
  | _, _, .nil => .nil
  | (f, v) :: a, (_, d) :: b, .cons h t => by
    rw [List.reverse_cons, List.reverse_cons]
    exact (RepF.rev t).append (.cons h .nil)
theorem RepF.zip : ∀ {ps : List Str} {vs : List V} {ds : List D}, Reps S H vs ds → RepF S H (ps.zip vs) (ps.zip ds)
  | [], _, _, _ => .nil
  | _ :: _, _, _, .nil => .nil
  | _ :: _, _, _, .cons h t => .cons h (RepF.zip t)
theorem RepF.look : ∀ {a : List (Str × V)} {b : List (Str × D)} {f : Str} {d : D}, RepF S H a b → b.lookup f = some d → ∃ v, a.lookup f = some v ∧ Rep S H v d
  | _, _, _, _, .nil, e => by cases e
  | (n, v) :: a, (_, d') :: b, f, d, .cons h t, e => by
    by_cases q : f == n
    · simp only [List.lookup, q] at e ⊢
      cases e
      exact ⟨v, rfl, h⟩
    · simp only [List.lookup, q] at e ⊢
      exact RepF.look t e
theorem RepF.none : ∀ {a : List (Str × V)} {b : List (Str × D)} {f : Str}, RepF S H a b → b.lookup f = Option.none → a.lookup f = Option.none
  | _, _, _, .nil, e => rfl
  | (n, v) :: a, (_, d') :: b, f, .cons h t, e => by
    by_cases q : f == n
    · simp only [List.lookup, q] at e
      cases e
    · simp only [List.lookup, q] at e ⊢
      exact RepF.none t e
theorem RepF.len : ∀ {a : List (Str × V)} {b : List (Str × D)}, RepF S H a b → a.length = b.length
  | _, _, .nil => rfl
  | _, _, .cons h t => congrArg Nat.succ (RepF.len t)
end

/-! ### errors -/
/-- the promise of an error's __init__ that stores its arguments -/
def errSp (C : Addr) (ps : List Str) : Sp := fun vs H Q _ => ∃ a us, vs = .ref a :: us ∧ us.length = ps.length ∧ H a = some (exo a C none) ∧ ∀ d, H d = none → d ≠ a → Q .non (upd (upd H d (exd d (ps.zip us).reverse)) a (exo a C (some d)))
/-- an error class of the program -/
structure ErrC (W : Wd) (S : Sg) (c : Nat) (x : Str) (ps : List Str) : Prop where
  gC : W.mg x = some (.ref (S.cX c))
  ox : OexC W.K (S.cX c)
  xf : XfC W.K (S.cX c)
  ec : ExcC W.K (S.cX c)
  self : PySem.W.exmOne W.K (.ref (S.cX c)) (.ref (S.cX c)) = some true
  noF : ∀ f ∈ ps, PySem.W.findIn W.K (.ref (S.cX c)) f = some none
  init : ∃ fI fd, PySem.W.findIn W.K (.ref (S.cX c)) "__init__" = some (some (.ref fI)) ∧ PySem.W.typeIn W.K (.ref fI) = some (.type "function") ∧
    FnOk W.P W.w W.K W.mg W.base (L2N.CX W.P W.w) 1 fI fd ("self" :: ps) (errSp (S.cX c) ps) ∧ Binds W.K fd ("self" :: ps) []

theorem pmk_err {X : Cx} {e : Expr} {es : List Expr} {ta : TA} {x : Str} {p pos : Pos} {C fI : Addr} {k : Nat} {fd : FuncData} {ps : List Str} {sp : Sp} (T : OexC X.K C) (iC : PySem.W.findIn X.K (.ref C) "__init__" = some (some (.ref fI)))
    (tI : PySem.W.typeIn X.K (.ref fI) = some (.type "function")) (F1 : FnOk X.prog X.w X.K X.mg X.base (L2N.CX X.prog X.w) k fI fd ps sp) (hr : Room (k + 1) X.A) (hb : Binds X.K fd ps []) (G : Ng X x) (hm : X.mg x = some (.ref C)) (ha : PA X (e :: es) ta)
    (he : starEach (e :: es) X.env = (false, eval e X.env) :: starEach es X.env := by rfl) (hpl : (backTo pos (starEach es X.env)).any (·.1) = false := by rfl) : L2N.PMk X (.Call (.Name x p) (e :: es) [] pos) (tMkO C sp [] ta) := by
  intro pins s σ H Q I h
  obtain ⟨nm, q, N, bs, bm, sn, sub, ab, col, dd, k0, k1, k2, k3, k5, hC, hbm⟩ := T.cls; refine wpAny_Call_Name_kw (ld_glob I G.gl hm ?_ G.dbg)
  refine PySem.W.callWith_K (h₀ := X.base) I.ok.mod.kin T.kC (wpAny_mono (ha.run pos pins s σ H _ I h) (fun us s1 w => ?_) fun _ _ z => z) he hpl
  obtain ⟨vs, H1, I1, r1, hz, q1⟩ := w
  refine ⟨I1.kIn, (show wpAny _ _ (call (.ref C) us) _ _ _ from ?_)⟩
  obtain ⟨hp, g, dr, tk, os⟩ := s1
  obtain ⟨n, hn0⟩ : ∃ n, n = hp.objs.size + 1 := ⟨_, rfl⟩
  have le : hp.objs.size ≤ n := by omega
  have hq := q1 n (I1.hok.fresh le); rw [List.append_nil] at hq
  obtain ⟨h', hh'⟩ : ∃ h', h' = (hp.push (PySem.W.kdv_tup us)).push (PySem.HandSPX.excO C hp.objs.size) := ⟨_, rfl⟩
  have kk : ∀ b o, hp.get? b = some o → h'.get? b = some o := by
    rw [hh']; exact fun b o z => Heap.get?_push_of_some _ (Heap.get?_push_of_some _ z)
  have hget : h'.get? n = some (PySem.HandSPX.excO C hp.objs.size) := by
    rw [hh', hn0]; heap_get
  have I2 : Inv X pins σ (upd H1 n (exo n C none)) ⟨h', g, dr, tk, os⟩ := I1.laid (t' := tk) kk le (exo_ok hget)
  have r2 : Vals (.ref n :: vs) (.ref n :: us) := .cons rfl r1
  have hl : (Value.ref n :: us ++ []).length = ps.length := by
    rw [List.append_nil, ← r2.length]; exact F1.len _ _ _ _ hq
  have b2 := hb ⟨h', g, dr, tk, os⟩ (.ref n :: us) I2.kIn hl; rw [List.append_nil] at b2
  have hus : us.length ≤ sizeLine := by
    rw [← r1.length, sizeLine_eq]; omega
  have body := F1.run (X.A.under (.builtin "type.__call__" ⟨.ref C :: us, []⟩)) X.stack ⟨h', g, dr, tk, os⟩ _ ⟨.ref n :: us, []⟩ (.ref n :: us) _ _ E0 (hr.make C us []) (I2.env0.make C us []) b2 r2 hq
  subst hh'; subst hn0
  refine wpAny_call (PySem.HandSPX.call_own F.excBase_ValueError (fun Y => PySem.HandSPX.refsVE_contains Y bm hbm) (I1.kIn _ _ hC) (PySem.W.looks_findIn I1.kIn iC) (fun self => PySem.W.bind_fn I1.kIn self tI) hus (codeAny_mono body fun r s' w => ?_))
  cases r with
  | error er => exact passN pins σ _ _ er s' I2 w
  | ok fl =>
    cases fl with
    | ret u =>
      obtain ⟨v, H2, os2, bare2, un2, hok2, rv, ev, d, fs, ea, ed, hd1, q2⟩ := w
      subst ev; obtain ⟨h2, g2, d2, t2, os'⟩ := s'
      obtain ⟨t0, G', J, kG, ge, hoe, na⟩ := mk_end0 (d2 := d2) (t2 := t2) I1 le kk un2 hok2 os2 bare2 ea ed hd1
      refine ⟨rv, ⟨_, _, _, ⟨G', g2, d2, t2, os'⟩, _, .ref C, some d, rfl, J, kG, ge, hoe, ⟨rfl, rfl, fun vs hv => ?_⟩, rfl, rfl, na, rfl, bare2, raises_own T.exC T.tyC, q2⟩⟩
      cases hv; rfl
    | next => exact w.elim
    | brk => exact w.elim
    | cont => exact w.elim

section
variable {X : Cx} {W : Wd} {S : Sg} {U : WX} {k j : Nat} {g g' : En} {P : Po} {e : Expr} {es : List Expr} {d : D} {ds dd : List D} {x : Str} {ps : List Str} {i n c : Nat} {fs : List (Str × D)} {pos p pos' : Pos} {R : List D → Out → Prop}
theorem s_raise (C : Cc X W S k) (tk : L2N.Takes X U) (E : ErrC W S c x ps) (G : Ng X x) (ha : XA X S g (e :: es) ds) (hx : P.ex c ((ps.zip ds).reverse) g) (hn : ds.length = ps.length := by rfl) (hk : 2 ≤ k := by decide) (hl : ds.length ≤ 1000 := by decide)
    (he : starEach (e :: es) X.env = (false, eval e X.env) :: starEach es X.env := by rfl) (hpl : (backTo pos (starEach es X.env)).any (·.1) = false := by rfl) : XS X S U g (.Raise (some (.Call (.Name x p) (e :: es) [] pos)) none pos') P := by
  obtain ⟨fI, fd, iC, tI, F, hb⟩ := E.init
  have gC := E.gC
  have ox := E.ox
  obtain ⟨⟨w1, w2, w3, w4⟩, c1, c2⟩ := C
  subst w1
  refine psI (L2N.ps_raise c1 tk (pmk_err ox iC tI F (c2.mono hk) hb G gC ha he hpl)) fun E' σ H ⟨B, M, st, c0, cx⟩ => ?_
  refine ⟨B, M, st, fun vs H1 e1 r => ⟨by rw [r.length]; exact hl, fun a ha => ?_⟩⟩
  refine ⟨a, vs ++ [], rfl, by rw [List.append_nil, r.length, hn], upd_same, fun d hd hne => ⟨rfl, d, _, upd_same, by rw [upd_ne hne]; exact upd_same, ?_, ?_⟩⟩
  · rw [upd_ne hne] at hd; exact hd
  · rw [upd_ne hne] at hd
    have same3 : Same H1 (upd (del (upd (upd (upd H1 a (exo a (S.cX c) none)) d (exd d (ps.zip (vs ++ [])).reverse)) a (exo a (S.cX c) (some d))) a) d (.xd (ps.zip (vs ++ [])).reverse)) := fun b o z => by
      have nb : b ≠ a := ne_of_none z ha
      have nd : b ≠ d := ne_of_none z hd
      rw [upd_ne nd, del_ne nb, upd_ne nb, upd_ne nd, upd_ne nb]
      exact z
    refine cx c _ d _ g M σ _ hx (st.mono (e1.trans same3)) ((st.same.trans e1).free hd) upd_same ?_
    rw [List.append_nil]
    rw [List.append_nil] at same3
    exact (RepF.zip r).rev.mono (hid_same same3)

/-! ### an expression that raises -/
def XR (X : Cx) (S : Sg) (U : WX) (g : En) (e : Expr) (c : Nat) (fs : List (Str × D)) : Prop :=
  PE X e fun t H _ => ∃ B M, Stt S B M g t H ∧ ∀ dx ws H', Same H H' → H dx = none → H' dx = some (.xd ws) → RepF S (hid M H') ws fs → U (.ref (S.cX c)) (some dx) t H'
theorem XR.wish {B : Bs} {M : List Addr} {t : L2.St} {H : Hp} (cx : Cx' S B U P) (hx : P.ex c fs g) (st : Stt S B M g t H) : ∀ dx ws H', Same H H' → H dx = none → H' dx = some (.xd ws) → RepF S (hid M H') ws fs → U (.ref (S.cX c)) (some dx) t H' :=
  fun dx ws H' e hn hd r => cx c fs dx ws g M t H' hx (st.mono e) (st.same.free hn) hd r
theorem s_exprR (he : XR X S U g e c fs) (hx : P.ex c fs g) (hs : swapsWith e none pos.line X.env = pure false := by rfl) : XS X S U g (.Expr e pos) P :=
  psI (ps_expr he hs) fun E σ H ⟨B, M, st, _, cx⟩ => ⟨B, M, st, XR.wish cx hx st⟩
theorem s_retR (he : XR X S U g e c fs) (hx : P.ex c fs g) : XS X S U g (.Return (some e) pos) P :=
  psI (ps_ret he) fun E σ H ⟨B, M, st, _, cx⟩ => ⟨B, M, st, XR.wish cx hx st⟩
theorem s_asgR (C : Kb X W S) (N : Nl X i x) (he : XR X S U g e c fs) (hx : P.ex c fs g) (hs : swapsWith e (some (.Name x p)) pos.line X.env = pure false := by rfl) : XS X S U g (.Assign [.Name x p] e pos) P :=
  psI (ps_set C.nd N.n N.loc he hs N.fn) fun E σ H ⟨B, M, st, _, cx⟩ => ⟨B, M, st, XR.wish cx hx st⟩
/-- a call with all that it may let out, at the slots as they stand -/
theorem run_S {k : Nat} {f : Addr} {fd : FuncData} {ps : List Str} {sp : Sp} {us : List Value} {dvs : List V} (U : WX) (F : FnOk X.prog X.w X.K X.mg X.base (L2N.CX X.prog X.w) k f fd ps sp) (hr : Room k X.A) (hb : Binds X.K fd ps us) (hv : Vals dvs us) (tk : L2N.Takes X U)
    {pins : List (Addr × Obj)} {σ : L2.St} {H : Hp} {s : Shared} {Q : VK} {ws : List Value} {vs : List V} (I : Inv X pins σ H s) (r : Vals vs ws) (h : sp (vs ++ dvs) H Q (WE U σ)) : wpAny (model X.prog X.w) X.A (call (.ref f) ws) (EP X pins σ Q) X.xe s := by
  have r2 : Vals (vs ++ dvs) (ws ++ us) := r.append hv
  have hl : (ws ++ us).length = ps.length := by
    rw [← r2.length]; exact F.len _ _ _ _ h
  refine wpAny_call (codeAny_mono (F.run X.A X.stack s H ⟨ws, []⟩ (ws ++ us) (vs ++ dvs) Q (WE U σ) hr I.env0 (hb s ws I.kIn hl) r2 h) fun r s' w => ?_)
  cases r with
  | error e => exact L2N.passAt tk σ pins H s e s' I w
  | ok fl =>
    cases fl with
    | ret u => exact I.after w
    | next => exact w.elim
    | brk => exact w.elim
    | cont => exact w.elim
theorem r_call (C : Cc X W S k) (tk : L2N.Takes X U) (F : Fn W S j x n dd R) (G : Ng X x) (ha : XA X S g (e :: es) ds) (hR : R (ds ++ dd) (.err c fs)) (hn : ds.length = n := by rfl) (hj : j ≤ k := by decide)
    (he : starEach (e :: es) X.env = (false, eval e X.env) :: starEach es X.env := by rfl) (hpl : (backTo pos (starEach es X.env)).any (·.1) = false := by rfl) : XR X S U g (.Call (.Name x p) (e :: es) [] pos) c fs := by
  obtain ⟨f, fd, ps, F, hm, hk, hl, dvs, us, hb, hv, hd⟩ := F.ex
  obtain ⟨⟨w1, w2, c3, c4⟩, c1, c2⟩ := C
  subst w1
  refine ⟨fun pins s σ H Q I w => ?_⟩
  obtain ⟨B, M, st, wish⟩ := w
  refine wpAny_Call_Name_kw (ld_glob I G.gl hm ?_ G.dbg)
  refine PySem.W.callWith_K (h₀ := X.base) I.ok.mod.kin hk (wpAny_mono (ha.run pos pins s σ H (fun vs H1 => Same H H1 ∧ Reps S (hid M H1) vs ds) I ⟨B, M, st, fun vs H1 e1 r => ⟨e1, r⟩⟩) (fun ws s1 w => ?_) fun _ _ z => z) he hpl
  obtain ⟨vs, H1, I1, r1, e1, rr⟩ := w
  refine ⟨I1.kIn, run_S U F (c2.mono hj) hb hv tk I1 r1 ⟨by rw [List.length_append, rr.length, (hd H).length, hl, hn], M, _, _, (st.mono e1).trk, rr.append (hd _), hR, fun dx ws H' e hn hd' rf => wish dx ws H' (e1.trans e) (e1.free hn) hd' rf⟩⟩
end

/-! ### try: .. except C as n: .. -/
/-- a try's body -/
theorem InB.try {X : Cx} {W : Wd} {S : Sg} {k : Nat} {N : List Str} {sc : Scope} {U U' : WX} (b : InB X W S k N sc U) {pn : List (Addr × Obj)} {xe : Value → Shared → Prop} (tk : L2N.Takes (X.tr pn xe) U') (own : PassesOwn (model X.prog X.w) X.A X.env xe) :
    InB (X.tr pn xe) W S k N sc U' :=
  ⟨⟨⟨b.wd, b.K, own, b.nd⟩, b.N, b.sc, b.fn⟩, ⟨⟨b.wd, b.K, own, b.nd⟩, b.C.calm, b.C.room⟩, tk, b.fr⟩
/-- an except suite's context: the exception at a, of the class c -/
structure InS (X : Cx) (W : Wd) (S : Sg) (k : Nat) (N : List Str) (sc : Scope) (a : Addr) (c : Nat) (dd : Addr) : Prop extends InH X W S k N sc where
  ex : ∃ X0 oe pn, X = Cx.suite X0 a ((a, oe) :: pn) ∧ Zc (.ref (S.cX c)) (some dd) oe ∧ ∃ vs, oe.data = .fields vs
theorem s_try {X : Cx} {W : Wd} {S : Sg} {U : WX} {k : Nat} {N : List Str} {sc : Scope} {g : En} {P : Po} {x n : Str} {i c0 : Nat} {ps : List Str} {body suite : List Stmt} {b0 : Stmt} {np pos pos' : Pos} (b : InB X W S k N sc U) (E : ErrC W S c0 x ps) (G : Ng X x) (Nn : Nl X i n)
    (hln : sc.names.lookup n = some .local) (Ex : Nat → List (Str × D) → En → Prop) (hc : ∀ c fs g', Ex c fs g' → PySem.W.exmOne W.K (.ref (S.cX c)) (.ref (S.cX c0)) = some true)
    (hb : ∀ X' U', InB X' W S k N sc U' → XB X' S U' g body { P with ex := Ex })
    (hs : ∀ X' U' c fs g' a dd, Ex c fs g' → InS X' W S k N sc a c dd → XB X' S U' (g'.set i (.exc a dd c fs)) (b0 :: suite) { nx := fun g2 => P.nx (g2.set i .no), rt := P.rt, bk := fun g2 => P.bk (g2.set i .no), ct := fun g2 => P.ct (g2.set i .no) }) :
    XS X S U g (.Try body [.ExceptHandler (some (.Name x np)) (some n) (b0 :: suite) pos'] [] [] pos) P := by
  have hmg := b.toKb.mg E.gC
  have Kx : X.K = W.K := congrArg Wd.K b.wd
  let ts : Addr → Value → Option Addr → TS := fun a cls d E t H => ∃ c fs g' dd B M, cls = .ref (S.cX c) ∧ d = some dd ∧ Ex c fs g' ∧ Stt S B M (g'.set i (.exc a dd c fs)) t H ∧
    Ct S B (fun _ _ _ _ => True) { nx := fun g2 => P.nx (g2.set i .no), rt := P.rt, bk := fun g2 => P.bk (g2.set i .no), ct := fun g2 => P.ct (g2.set i .no) } E
  refine psI (L2N.ps_try_as (tb := fun U' E t H => ∃ B M, Stt S B M g t H ∧ Ct S B U' { P with ex := Ex } E ∧ Cx' S B U' { P with ex := Ex }) (ts := ts) (Wout := U) b.fr.1 b.fr.2 b.nd Nn.n (by show X.env.scope.names.lookup n = _; rw [b.sc]; exact hln) ⟨G.gl, G.dbg, .inl hmg⟩ b.tk
    (fun U' pn xe tk own => hb _ U' (b.try tk own)) (fun a oe cls d pn hz hf => ⟨fun pins s σ H E I w => ?_⟩)) fun E σ H ⟨B, M, st, c, cx⟩ => ?_
  · obtain ⟨c, fs, g', dd, B, M, rfl, rfl, hx, st, ct⟩ := w
    obtain ⟨vs, hd⟩ := hf
    have IH : InH (X.suite a ((a, oe) :: pn)) W S k N sc := ⟨⟨⟨b.wd, b.K, PassesOwn.never, b.nd⟩, b.N, b.sc, b.fn⟩, ⟨⟨b.wd, b.K, PassesOwn.never, b.nd⟩, ⟨(a, oe), ⟨rfl, vs, hd, hz.2.2 vs hd⟩, List.mem_cons_self⟩, L2H.roomH_mark b.C.room _⟩⟩
    exact (hs _ (fun _ _ _ _ => True) c fs g' a dd hx ⟨IH, X, oe, pn, rfl, hz.zc, vs, hd⟩).run pins s σ H E I ⟨B, M, st, ct, fun _ _ _ _ _ _ _ _ z => z.elim⟩
  · refine ⟨B, M, st, ⟨c.nx, c.rt, c.bk, c.ct⟩, fun c' fs dx ws g' M' t H' hx st' hn hd r => ?_⟩
    refine ⟨true, by rw [Kx]; exact hc c' fs g' hx, fun _ a ha => ?_, fun z => Bool.noConfusion z⟩
    refine ⟨c', fs, g', dx, B, M', rfl, rfl, hx, st'.put i rfl ⟨rfl, ws, hd, r⟩, ⟨fun g2 M2 t2 H2 z q => ?_, c.rt, fun g2 M2 t2 H2 z q => ?_, fun g2 M2 t2 H2 z q => ?_⟩⟩
    · exact c.nx _ M2 _ H2 z (q.put i rfl trivial)
    · exact c.bk _ M2 _ H2 z (q.put i rfl trivial)
    · exact c.ct _ M2 _ H2 z (q.put i rfl trivial)
end Fw

set_option Elab.async false
set_option linter.all false
set_option maxRecDepth 100000
set_option maxHeartbeats 4000000
namespace PySem.W
open PySem PySem.Spec PySem.Calls PyProof.Rows
section
variable {prog : Program} {w : World} {A : Around} {E : Value → Shared → Prop} {s : Shared} {K : Frag} {x D : Addr} {ox od : Obj}
/-- the class of an exception that has its own dict -/
theorem fw_classD {Q : Option Value → Shared → Prop} (ec : L2.ExcC K D) (X : K.In s.heap) (I : InstAt s.heap x ox D (some od)) (h : Q (some (.ref D)) { s with toks := s.toks + 1 }) : wpAny (model prog w) A (getAttr? (.ref x) "__class__") Q E s := by
  have hcl : (clsIn K D).isSome = true := by
    obtain ⟨cd, hc, _⟩ := any_some ec.hd
    rw [hc]; rfl
  have hf := findObj_data (od := od) hcl ec.ha ec.hn ec.ht
  obtain ⟨hh, gg, dr, tt, os⟩ := s
  have T0 := I.type (M := model prog w); have T1 := looks_findIn (M := model prog w) X ec.hg; have T2 := looks_findIn (M := model prog w) X ec.hk
  have T3 := looks_find (M := model prog w) X I hf
  have sb : Looks (model prog w) hh (isInstance (.ref x) (.type "BaseException")) true := T0.andThen (looks_subIn X ec.hs)
  have y2 : (Value.builtin "BaseException.__getattribute__" == Value.builtin "object.__getattribute__") = false := by decide +kernel
  have y0 : (false && onTheHeap (Value.builtin "BaseException.__getattribute__")) = false := by rfl
  have y1 : (onTheHeap (Value.ref D) && Value.builtin "BaseException.__getattribute__" == Value.builtin "object.__getattribute__") = false := by rw [y2] <;> rfl
  unfold getAttr? getAttrBy? getAttrBy; refine wpAny_bind (wpAny_mkText (wpAny_bind (wpAny_attempt (wpAny_holding (wpAny_bind (T0.at (wpAny_bind (T1.at ?_))))))))
  show wpAny _ _ (if (onTheHeap (Value.ref D) && Value.builtin "BaseException.__getattribute__" == Value.builtin "object.__getattribute__") = true then _ else _) _ _ _
  rw [y1, if_neg Bool.false_ne_true]; unfold getAttrByItsOwn hookBefore; refine wpAny_bind ?_
  rw [if_pos (show onTheHeap (Value.ref D) = true from rfl)]; refine T2.at (wpAny_bind (wpAny_attempt (wpAny_holding ?_)))
  unfold callGetattribute; rw [y0, if_neg Bool.false_ne_true]
  unfold boundAndCalled; rw [PySem.F.excAttr_ValueError.ga.bind (.ref x)]; refine wpAny_bind (wpAny_pure ?_)
  show wpAny _ _ (call (.builtin "BaseException.__getattribute__") [.ref x, .str "__class__" tt]) _ _ _
  refine wpAny_call (codeAny_call_builtin PySem.F.excAttr_ValueError.ga.plain PySem.F.entry_bexc_ga ?_)
  refine @check_slot (model prog w) _ _ ⟨hh, gg, dr, tt + 1, os⟩ "BaseException.__getattribute__" "BaseException" "__getattribute__" (.ref x) [.str "__class__" tt] [] _ (by decide +kernel) (by decide +kernel) sb (PySem.F.args_bexc_ga (.ref x) (.str "__class__" tt)) ?_
  unfold Builtin.«object.__getattribute__»; refine wpAny_bind (wpAny_of_eq (a := ((Value.ref x : Value), [Value.str "__class__" tt])) (by first | rfl | (simp only [slotArgs]; rfl)) ?_)
  refine wpAny_bind (wpAny_pure (wpAny_bind (T0.at (wpAny_bind (T3.at ?_)))))
  show wpAny _ _ (holding [Value.builtin "object.__class__"] (call (.builtin "getset_descriptor.__get__") [.builtin "object.__class__", .ref x, .ref D]) >>= ret) _ _ _
  refine wpAny_bind (wpAny_holding (wpAny_call (class_get (s := ⟨hh, gg, dr, tt + 1, os⟩) (ox := ox) (od := some od) X I ec.hm (wpAny_pure ?_))))
  show wpAny _ _ (handedOut (.ref D)) _ _ _
  rw [handedOut_of (v := .ref D) rfl]
  first
    | exact wpAny_pure (wpAny_pure h)
    | exact wpAny_pure h
    | exact wpAny_pure (wpAny_bind (wpAny_pure (wpAny_pure h)))
theorem fw_kitE (ec : L2.ExcC K D) : KitX K (.ref x) (.ref D) (fun h => InstAt h x ox D (some od)) where
  ty := fun _ _ _ I => I.type
  it := fun M h X _ => by
    obtain ⟨cd, hc, _⟩ := any_some ec.hd; unfold clsIn at hc
    split at hc
    · rename_i ho; intro A' Q' E' s' k q
      unfold isType loadHead; exact wpAny_bind (wpAny_loadPart (k _ _ (X _ _ ho)) (wpAny_pure q))
    · cases hc
  ne := fun h tp dd its n sl X htp => (handS_kitx_exc (x := x) (ox := { ox with dict := none }) ec.hg ec.hk ec.hs ec.hd ec.ha ec.hn ec.ht ec.hm).ne h tp dd its n sl X htp
  ca := fun X I k => fw_classD ec X I k
end
end PySem.W
namespace Fw
open PySem L2
section
variable {X : Cx} {W : Wd} {S : Sg} {U : WX} {k : Nat} {N : List Str} {sc : Scope} {g : En} {a dd : Addr} {c i : Nat} {fs : List (Str × D)} {ps : List Str} {x n f y : Str} {d : D} {bb : Bool} {pos p p2 : Pos}
/-- e.f in a suite -/
theorem e_exc (b : InS X W S k N sc a c dd) (E : ErrC W S c x ps) (Nn : Nm X i n) (hi : g[i]? = some (.exc a dd c fs)) (hf : f ∈ ps) (hd : fs.lookup f = some d) : Fw.XE X S g (.Attribute (.Name n p) f pos) d := by
  obtain ⟨X0, oe, pn, rfl, hz, hv⟩ := b.ex
  have Kx : X0.K = W.K := congrArg Wd.K b.wd
  have he : PE (X0.suite a ((a, oe) :: pn)) (.Name n p) (tVar i) := pe_var Nn.n Nn.vis Nn.dbg Nn.cdt
  refine peI (pe_xf (C := S.cX c) (by rw [Kx]; exact E.xf) (by rw [Kx]; exact E.noF f hf) hz hv he) fun σ H Q ⟨B, M, st, kk⟩ => ?_
  obtain ⟨o, ho, e1, ws, hdd, r⟩ := st.sl i _ hi
  obtain ⟨v, hl, rv⟩ := r.look hd
  exact ⟨.ref a, by rw [ho, e1], rfl, rfl, dd, ws, v, rfl, hdd, hl, kk v H (Same.refl H) rv⟩
/-- isinstance(e, C) in a suite -/
theorem call_isX {oe : Obj} {pn : List (Addr × Obj)} {X0 : Cx} (ec : ExcC X0.K (S.cX c)) (hz : Zc (.ref (S.cX c)) (some dd) oe) (hf : ∃ vs, oe.data = .fields vs) :
    CallR (X0.suite a ((a, oe) :: pn)) (.builtin "isinstance") (fun xs H Q => (∃ ws, H dd = some (.xd ws)) ∧ rIsE X0.K (S.cX c) a xs H Q) := by
  intro pins s σ H xs us Q I r ⟨⟨ws, hw⟩, h⟩
  obtain ⟨cc, cv, b, rfl, hcv, e, q⟩ := h
  cases r with
  | cons rx rr =>
    cases rr with
    | cons rt rr =>
      cases rr
      cases rx
      have ec' := hcv _ rt
      subst ec'
      obtain ⟨hget, _⟩ := I.pin (a, oe) (List.mem_append_left _ List.mem_cons_self)
      obtain ⟨vs, hv⟩ := hf
      have hx : ObjOk X0.prog X0.w H s.heap dd (.xd ws) := I.hok dd _ hw
      obtain ⟨mA, hns, _⟩ := hx
      obtain ⟨od, ho, _⟩ := lookIn_ns hns
      have J : PySem.W.InstAt s.heap a oe (S.cX c) (some od) := ⟨hget, hz.1, by unfold PySem.W.notCls; rw [hv] <;> rfl, by rw [hz.2]; exact ho⟩
      exact PySem.W.kia_one (PySem.W.fw_kitE ec) I.kIn J e (fun z => nomatch z) fun tk => ⟨.bl b, H, I.kept (t' := tk) fun _ _ z => z, rfl, q⟩
/-- .. C a class of the program -/
theorem e_isE {cls : Addr} {pos' : Pos} (b : InS X W S k N sc a c dd) (E : ErrC W S c x ps) (Nn : Nm X i n) (hi : g[i]? = some (.exc a dd c fs)) (G : Ng X "isinstance") (hm : W.mg "isinstance" = none) (Gy : Ng X y) (hy : W.mg y = some (.ref cls))
    (hk : PySem.W.kitOne W.K (.ref (S.cX c)) (.ref cls) = some bb) : Fw.XE X S g (.Call (.Name "isinstance" p) [.Name n p2, .Name y pos] [] pos') (.bl bb) := by
  have mi := b.toKb.mg hm
  have my := b.toKb.mg hy
  obtain ⟨X0, oe, pn, rfl, hz, hv⟩ := b.ex
  have Kx : X0.K = W.K := congrArg Wd.K b.wd
  refine peI (pe_callB (call_isX (S := S) (c := c) (dd := dd) (by rw [Kx]; exact E.ec) hz hv) G.gl mi (by decide +kernel) (pa_cons (pe_var Nn.n Nn.vis Nn.dbg Nn.cdt) (pa_cons (pe_glob (v := .ref cls) Gy.gl my rfl Gy.dbg) pa_nil))) fun σ H Q ⟨B, M, st, kk⟩ => ?_
  obtain ⟨o, ho, e1, ws, hdd, r⟩ := st.sl i _ hi
  exact ⟨.ref a, by rw [ho, e1], ⟨ws, hdd⟩, .ref cls, .ref cls, bb, rfl, fun u z => z, by rw [Kx]; exact hk, kk _ H (Same.refl H) (.bl _)⟩
/-- .. C a built-in class -/
theorem e_isEB {T : String} {pos' : Pos} (b : InS X W S k N sc a c dd) (E : ErrC W S c x ps) (Nn : Nm X i n) (hi : g[i]? = some (.exc a dd c fs)) (G : Ng X "isinstance") (hm : W.mg "isinstance" = none) (Gy : Ng X y) (hy : W.mg y = none) (hB : bootBuiltins y = some (.type T))
    (hk : PySem.W.kitOne W.K (.ref (S.cX c)) (.type T) = some bb) (hyn : y ≠ "__name__" := by decide) : Fw.XE X S g (.Call (.Name "isinstance" p) [.Name n p2, .Name y pos] [] pos') (.bl bb) := by
  have mi := b.toKb.mg hm
  have my := b.toKb.mg hy
  obtain ⟨X0, oe, pn, rfl, hz, hv⟩ := b.ex
  have Kx : X0.K = W.K := congrArg Wd.K b.wd
  refine peI (pe_callB (call_isX (S := S) (c := c) (dd := dd) (by rw [Kx]; exact E.ec) hz hv) G.gl mi (by decide +kernel) (pa_cons (pe_var Nn.n Nn.vis Nn.dbg Nn.cdt) (pa_cons (pe_bltn (v := .ty T) Gy.gl my hB rfl hyn Gy.dbg) pa_nil))) fun σ H Q ⟨B, M, st, kk⟩ => ?_
  obtain ⟨o, ho, e1, ws, hdd, r⟩ := st.sl i _ hi
  exact ⟨.ref a, by rw [ho, e1], ⟨ws, hdd⟩, .ty T, .type T, bb, rfl, fun u z => z, by rw [Kx]; exact hk, kk _ H (Same.refl H) (.bl _)⟩
end
end Fw

set_option Elab.async false
set_option linter.all false
set_option maxRecDepth 100000
set_option maxHeartbeats 4000000
namespace Fw
open PySem L2

/-! ### isinstance -/
/-- a datum's type -/
def tyD (S : Sg) : D → Value
  | .non => .type "NoneType"
  | .bl _ => .type "bool"
  | .int _ => .type "int"
  | .str _ => .type "str"
  | .tup _ => .type "tuple"
  | .lst _ => .type "list"
  | .pt _ _ _ => .ref S.cP
  | .obj c _ => .ref (S.cO c)
/-- what a class must say for isinstance of its instances -/
structure Isi (K : PySem.W.Frag) (C : Addr) : Prop where
  ca : PySem.W.findIn K (.ref C) "__class__" = some (some (.builtin "object.__class__"))
  cn : PySem.W.specialIn K (.builtin "object.__class__") "__get__" = some (some (.builtin "getset_descriptor.__get__"))
  ct : PySem.W.takesIn K (.builtin "object.__class__") = some true
  cm : PySem.W.mroIn K C (.type "object") = some true
structure PtC (W : Wd) (S : Sg) : Prop where
  gC : W.mg "Point" = some (.ref S.cP)
  scls : SlX.SCls W.K S.cP
  isi : SlX.SIsi W.K S.cP
  sx : ∃ p, SlX.Slot1 W.K S.cP "x" p S.iX
  sy : ∃ p, SlX.Slot1 W.K S.cP "y" p S.iY
  so : ∃ p, SlX.Slot1 W.K S.cP "over" p S.iO
  xy : S.iX ≠ S.iY
  xo : S.iX ≠ S.iO
  yo : S.iY ≠ S.iO
/-- the data of which isinstance is asked: which classes are sound -/
def isiOk (W : Wd) (S : Sg) : D → Prop
  | .pt _ _ _ => SlX.SCls W.K S.cP ∧ SlX.SIsi W.K S.cP
  | .obj c _ => Cls W.K (S.cO c) ∧ Isi W.K (S.cO c)
  | _ => True
def rIsiA (K : PySem.W.Frag) (u : Value) : List V → Hp → VK → Prop := fun xs H Q => rIsi K xs H Q ∨ SlX.rIsiSl K u xs H Q
section
variable {X : Cx} {W : Wd} {S : Sg} {U : WX} {k j : Nat} {g : En} {P : Po} {e : Expr} {es : List Expr} {d : D} {ds dd : List D} {x y : Str} {i n c : Nat} {pos p p2 : Pos} {bb : Bool} {cls : Addr}
theorem tyx_of {H : Hp} {M : List Addr} {v : V} (hK : W.K = S.K) (r : Rep S (hid M H) v d) (ok : isiOk W S d) (hp : ∀ x y o, d ≠ .pt x y o) : TyX W.K H v (tyD S d) := by
  cases r with
  | non => exact .base .non
  | bl b => exact .base (.bl b)
  | int i => exact .base (.int i)
  | str x => exact .base (.str x)
  | tup h r =>
    rcases h with (h | ⟨o, h⟩) | ⟨o, its, n, h1, h2, _⟩
    · exact .base (.tup (hid_some h).2)
    · exact .fTuple (hid_some h).2
    · exact .kTuple (by rw [hK]; exact h1) h2
  | lst h r =>
    rcases h with (h | ⟨o, h⟩) | ⟨o, its, n, h1, h2, _⟩
    · exact .base (.lst (hid_some h).2)
    · exact .base (.frz (hid_some h).2)
    · exact .kList (by rw [hK]; exact h1) h2
  | pt => exact absurd rfl (hp _ _ _)
  | obj h r => exact .base (.ins (hid_some h).2 ok.1 ok.2.ca ok.2.cn ok.2.ct ok.2.cm)
/-- isinstance(e, C), C a class of the program -/
theorem e_isi (C : Kb X W S) (he : Fw.XE X S g e d) (ok : isiOk W S d) (G : Ng X "isinstance") (hm : W.mg "isinstance" = none) (Gy : Ng X y) (hy : W.mg y = some (.ref cls)) (hk : PySem.W.kitOne W.K (tyD S d) (.ref cls) = some bb)
    (h1 : starEach [e, .Name y p2] X.env = (false, eval e X.env) :: starEach [.Name y p2] X.env := by rfl) : Fw.XE X S g (.Call (.Name "isinstance" p) [e, .Name y p2] [] pos) (.bl bb) := by
  have hK := C.K
  have mi := C.mg hm
  have my := C.mg hy
  obtain ⟨w1, w2, w3, w4⟩ := C
  subst w1
  refine peI (pe_callB (CallR.or call_isi (SlX.call_isiSl (.ref cls))) G.gl mi (by decide +kernel) (pa_cons he (pa_cons (pe_glob (v := .ref cls) Gy.gl my rfl Gy.dbg) pa_nil) h1) (he := h1) (hpl := by rfl)) fun σ H Q ⟨B, M, st, kk⟩ => ⟨B, M, st, fun v H1 e1 r => ?_⟩
  have fin := kk (.bl bb) H1 e1 (.bl bb)
  by_cases hp : ∃ x y o, d = .pt x y o
  · obtain ⟨x, y, o, rfl⟩ := hp
    cases r with
    | pt h hx hy' ho => exact .inr ⟨_, _, _, _, .ref cls, bb, rfl, rfl, fun w z => z, slt_mono hid_le h, ok.1, ok.2, hk, fin⟩
  · exact .inl ⟨v, .ref cls, tyD S d, .ref cls, bb, rfl, .own cls, tyx_of (W := wdOf X) hK r ok fun x y o z => hp ⟨x, y, o, z⟩, hk, fin⟩
/-- .. C a built-in class -/
theorem e_isiB {T : String} (C : Kb X W S) (he : Fw.XE X S g e d) (ok : isiOk W S d) (G : Ng X "isinstance") (hm : W.mg "isinstance" = none) (Gy : Ng X y) (hy : W.mg y = none) (hB : bootBuiltins y = some (.type T)) (hk : PySem.W.kitOne W.K (tyD S d) (.type T) = some bb) (hyn : y ≠ "__name__" := by decide)
    (h1 : starEach [e, .Name y p2] X.env = (false, eval e X.env) :: starEach [.Name y p2] X.env := by rfl) : Fw.XE X S g (.Call (.Name "isinstance" p) [e, .Name y p2] [] pos) (.bl bb) := by
  have hK := C.K
  have mi := C.mg hm
  have my := C.mg hy
  obtain ⟨w1, w2, w3, w4⟩ := C
  subst w1
  refine peI (pe_callB (CallR.or call_isi (SlX.call_isiSl (.type T))) G.gl mi (by decide +kernel) (pa_cons he (pa_cons (pe_bltn (v := .ty T) Gy.gl my hB rfl hyn Gy.dbg) pa_nil) h1) (he := h1) (hpl := by rfl)) fun σ H Q ⟨B, M, st, kk⟩ => ⟨B, M, st, fun v H1 e1 r => ?_⟩
  have fin := kk (.bl bb) H1 e1 (.bl bb)
  by_cases hp : ∃ x y o, d = .pt x y o
  · obtain ⟨x, y, o, rfl⟩ := hp
    cases r with
    | pt h hx hy' ho => exact .inr ⟨_, _, _, _, .ty T, bb, rfl, rfl, fun w z => z, slt_mono hid_le h, ok.1, ok.2, hk, fin⟩
  · exact .inl ⟨v, .ty T, tyD S d, .type T, bb, rfl, .ty T, tyx_of (W := wdOf X) hK r ok fun x y o z => hp ⟨x, y, o, z⟩, hk, fin⟩

/-! ### == of lists and tuples of plain data -/
mutual
def pdOf : D → PyData
  | .non => .none
  | .bl b => .bool b
  | .int i => .int i
  | .str x => .str x
  | .tup xs => .tuple (pdsOf xs)
  | .lst xs => .list (pdsOf xs)
  | .pt _ _ _ => .none
  | .obj _ _ => .none
def pdsOf : List D → List PyData
  | [] => []
  | d :: ds => pdOf d :: pdsOf ds
end
mutual
def flat : D → Bool
  | .pt _ _ _ => false
  | .obj _ _ => false
  | .tup xs => flats xs
  | .lst xs => flats xs
  | _ => true
def flats : List D → Bool
  | [] => true
  | d :: ds => flat d && flats ds
end
mutual
theorem dp_of {H : Hp} : ∀ {v : V} {d : D}, Rep S H v d → flat d = true → Dp S.K H v (pdOf d)
  | _, _, .non, _ => .non
  | _, _, .bl b, _ => .bl b
  | _, _, .int i, _ => .int i
  | _, _, .str x, _ => .str x
  | _, _, .tup h r, f => .tup h (dps_of r (by unfold flat at f; exact f))
  | _, _, .lst h r, f => .lst h (dps_of r (by unfold flat at f; exact f))
  | _, _, .pt _ _ _ _, f => by unfold flat at f; cases f
  | _, _, .obj _ _, f => by unfold flat at f; cases f
theorem dps_of {H : Hp} : ∀ {vs : List V} {ds : List D}, Reps S H vs ds → flats ds = true → DpAll S.K H vs (pdsOf ds)
  | _, _, .nil, _ => .nil
  | _, _, .cons h t, f => by
    unfold flats at f
    rw [Bool.and_eq_true] at f
    exact .cons (dp_of h f.1) (dps_of t f.2)
end
mutual
theorem dp_mono {K : PySem.W.Frag} {H H' : Hp} (e : Same H H') : ∀ {v : V} {d : PyData}, Dp K H v d → Dp K H' v d
  | _, _, .non => .non
  | _, _, .bl b => .bl b
  | _, _, .int i => .int i
  | _, _, .str x => .str x
  | _, _, .tup h r => .tup (Evl.ex_t e h) (dps_mono e r)
  | _, _, .lst h r => .lst (Evl.ex_l e h) (dps_mono e r)
theorem dps_mono {K : PySem.W.Frag} {H H' : Hp} (e : Same H H') : ∀ {vs : List V} {ds : List PyData}, DpAll K H vs ds → DpAll K H' vs ds
  | _, _, .nil => .nil
  | _, _, .cons h t => .cons (dp_mono e h) (dps_mono e t)
end
theorem c_eqD {d1 d2 : D} (C : Kb X W S) (hu : X.A.units + 64 < cLine) (f1 : flat d1 = true) (f2 : flat d2 = true) (s1 : SeqAt.shaped (pdOf d1) = true) (s2 : SeqAt.shaped (pdOf d2) = true) : BinD X S (compareOp .Eq) d1 d2 (.bl (PyData.eqv (pdOf d1) (pdOf d2))) := by
  intro pins s σ H v w u z Q I rx ry ⟨M, _, q, K⟩
  obtain ⟨x', y', e, q1, q2⟩ := q.two
  cases e
  have h1 := dp_mono hid_le (dp_of q1 f1)
  have h2 := dp_mono hid_le (dp_of q2 f2)
  rw [← C.kk] at h1 h2
  exact op_eqD hu pins s σ H _ _ u z Q I rx ry ⟨_, _, h1, h2, s1, s2, K _ H (Same.refl H) (.bl _)⟩
theorem c_neD {d1 d2 : D} (C : Kb X W S) (hu : X.A.units + 64 < cLine) (f1 : flat d1 = true) (f2 : flat d2 = true) (s1 : SeqAt.shaped (pdOf d1) = true) (s2 : SeqAt.shaped (pdOf d2) = true) : BinD X S (compareOp .NotEq) d1 d2 (.bl (!PyData.eqv (pdOf d1) (pdOf d2))) := by
  intro pins s σ H v w u z Q I rx ry ⟨M, _, q, K⟩
  obtain ⟨x', y', e, q1, q2⟩ := q.two
  cases e
  have h1 := dp_mono hid_le (dp_of q1 f1)
  have h2 := dp_mono hid_le (dp_of q2 f2)
  rw [← C.kk] at h1 h2
  exact op_neD hu pins s σ H _ _ u z Q I rx ry ⟨_, _, h1, h2, s1, s2, K _ H (Same.refl H) (.bl _)⟩
theorem Cc.hu (C : Cc X W S k) : X.A.units + 64 < cLine := C.room.units
theorem Hc.hu (C : Hc X W S k) : X.A.units + 64 < cLine := by
  have := C.roomH.un
  omega

/-! ### calls, loops while an exception is handled -/
structure FnHt (W : Wd) (S : Sg) (k : Nat) (x : Str) (n : Nat) (R : List D → Out → Prop) : Prop where
  ex : ∃ f fd ps, L2H.FnH W.P W.w W.K W.mg W.base (L2N.CX W.P W.w) k f fd ps (spOf S ps.length R) ∧ W.mg x = some (.ref f) ∧ PySem.W.keepIn W.K (.ref f) = true ∧ ps.length = n ∧ Binds W.K fd ps []
theorem passH {E : L2.St → XK} (h : ∀ σ, E σ = E0) : ∀ σ, PassesAt (L2N.CX X.prog X.w) X σ (E σ) := fun σ pins H s e s' I w => by
  rw [h σ] at w
  exact passN pins σ H s e s' I w
theorem e_callHt {R : List D → Out → Prop} (C : Hc X W S k) (F : FnHt W S j x n R) (G : Ng X x) (ha : XA X S g (e :: es) ds) (hR : R ds (.ok d)) (hn : ds.length = n := by rfl) (hj : j ≤ k := by decide)
    (he : starEach (e :: es) X.env = (false, eval e X.env) :: starEach es X.env := by rfl) (hpl : (backTo pos (starEach es X.env)).any (·.1) = false := by rfl) : Fw.XE X S g (.Call (.Name x p) (e :: es) [] pos) d := by
  obtain ⟨f, fd, ps, F, hm, hk, hl, hb⟩ := F.ex
  obtain ⟨⟨w1, w2, c3, c4⟩, c1, c2⟩ := C
  subst w1
  refine peI (L2H.pe_callH (E := fun _ => E0) F (c2.mono hj) c1 G.gl hm hk hb (passH fun _ => rfl) ha G.dbg he hpl) ?_
  intro σ H Q ⟨B, M, st, kk⟩
  exact ⟨B, M, st, fun vs H1 e1 r => ⟨by rw [r.length, hn, hl], M, ds, _, (st.mono e1).trk, r, hR, fun v H2 e2 r2 => kk v H2 (e1.trans e2) r2⟩⟩
/-- for over range, an exception being handled -/
theorem s_forH {tg e : Expr} {body : List Stmt} {jj : Int} (C : Hc X W S k) (G : Ng X "range") (hm : X.mg "range" = none) (ha : XA X S g [e] [.int jj]) (hj : -(2 ^ 62) ≤ jj ∧ jj < 2 ^ 62) (I : Nat → En → Prop) (h0 : I 0 g)
    (hs : ∀ i g1, i < jj.toNat → I i g1 → ∃ g2, XG X S g1 tg (.int (0 + i)) g2 ∧ XB X S U g2 body { P with nx := I (i + 1), ct := I (i + 1), bk := P.nx }) (hd : ∀ g1, I jj.toNat g1 → P.nx g1)
    (hs1 : starEach [e] X.env = [(false, eval e X.env)] := by rfl) : XS X S U g (.For tg (.Call (.Name "range" p) [e] [] p2) body [] pos) P := by
  have hi : L2H.PIH X tg (.Call (.Name "range" p) [e] [] p2) (fun t H R => ∃ B M, Stt S B M g t H ∧ ∀ J Gh H', Same H H' → Walks S J Gh jj.toNat (fun i => .int (0 + i)) → Gh (hid M H') → R J H') := by
    refine ⟨fun pins s σ H R I ⟨B, M, st, kk⟩ => (L2H.pi_range1H G.gl hm ha hs1).run pins s σ H R I ⟨B, M, st, fun vs H1 e1 r => ?_⟩⟩
    obtain ⟨x, e, q⟩ := r.one
    cases e
    cases q
    exact ⟨jj, rfl, hj.1, hj.2, kk _ _ H1 e1 walks_rng trivial⟩
  have hg : PG X tg (fun v t H Q => ∃ g1 d g2, XG X S g1 tg d g2 ∧ ∃ B M, Stt S B M g1 t H ∧ Rep S (hid M H) v d ∧ ∀ t', Stt S B M g2 t' H → Q t' H) := ⟨fun pins s σ H v u Q I r ⟨g1, d, g2, hx, w⟩ => hx.run pins s σ H v u Q I r w⟩
  have hb : PSs X body (fun E t H => ∃ g' P', XB X S U g' body P' ∧ ∃ B M, Stt S B M g' t H ∧ Ct S B U P' E ∧ Cx' S B U P') := ⟨fun pins s σ H E I ⟨g', P', hx, w⟩ => hx.run pins s σ H E I w⟩
  refine psI (L2H.ps_forH C.own C.hot hi hg hb (fun _ => rfl)) fun E σ H ⟨B, M, st, c, x⟩ => ⟨B, M, st, fun J Gh H' e1 wk hG => ?_⟩
  refine ⟨fun i m t H => m = jj.toNat - i ∧ i ≤ jj.toNat ∧ ∃ g1 M1, I i g1 ∧ Stt S (B.more Gh wk.mono) M1 g1 t H, ⟨jj.toNat, by simp, Nat.zero_le _, g, M, h0, (st.mono e1).more wk.mono hG⟩, ?_⟩
  rintro i m t H1 ⟨rfl, hin, g1, M1, hI, st1⟩
  by_cases hlt : i < jj.toNat
  · refine .inr ⟨wk.go M1 i H1 st1.gh.2 hlt, fun t2 H2 => ∃ g2 M2, I (i + 1) g2 ∧ Stt S (B.more Gh wk.mono) M2 g2 t2 H2, fun t2 H2 w => ⟨jj.toNat - (i + 1), by omega, rfl, hlt, w⟩, fun y H2 hy => ?_⟩
    obtain ⟨e2, r⟩ := wk.yld M1 i H1 y H2 st1.trk st1.gh.2 hlt hy
    obtain ⟨g2, hx, hB⟩ := hs i g1 hlt hI
    refine ⟨g1, _, g2, hx, _, M1, st1.mono e2, r, fun t' st' => ⟨g2, _, hB, _, M1, st', ⟨fun g3 M3 t3 H3 z q => ⟨g3, M3, z, q⟩, c.rt, fun g3 M3 t3 H3 z q => c.nx _ _ _ _ z q.less, fun g3 M3 t3 H3 z q => ⟨g3, M3, z, q⟩⟩, fun c' fs dx ws g3 M3 t3 H3 z q => x c' fs dx ws g3 M3 t3 H3 z q.less⟩⟩
  · have e : i = jj.toNat := by omega
    subst e
    exact .inl ⟨wk.stop M1 _ H1 st1.gh.2 (Nat.le_refl _), c.nx _ _ _ _ (hd g1 hI) st1.less⟩
end
end Fw

set_option Elab.async false
set_option linter.all false
set_option maxRecDepth 100000
set_option maxHeartbeats 4000000
namespace Fw
open PySem L2

/-! ### defs that are found at a class -/
theorem takes0 {X : Cx} : L2N.Takes X (fun _ _ _ _ => False) := fun u s' h => by
  obtain ⟨_, _, _, _, _, _, _, _, _, _, _, _, _, _, _, _, z⟩ := h
  exact z.elim
/-- an expression with all that it may do -/
def XQ (X : Cx) (S : Sg) (U : WX) (g : En) (e : Expr) (o : Out) : Prop := PE X e fun t H Q => ∃ B M, Stt S B M g t H ∧ OutK S H M Q (fun c d H' => U c d t H') o
def spM (S : Sg) (n : Nat) (dd : List D) (R : List D → Out → Prop) : Sp := fun vs H Q E => ∃ M ds o, vs.length = n ∧ (∀ a ∈ M, H a ≠ none) ∧ Reps S (hid M H) vs ds ∧ R (ds ++ dd) o ∧ OutK S H M Q E o
structure FnM (W : Wd) (S : Sg) (k : Nat) (q : Addr) (n : Nat) (dd : List D) (R : List D → Out → Prop) : Prop where
  ex : ∃ fd ps, FnOk W.P W.w W.K W.mg W.base (L2N.CX W.P W.w) k q fd ps (spOf S ps.length R) ∧ ps.length = n + dd.length ∧ ∃ dvs us, Binds W.K fd ps us ∧ Vals dvs us ∧ ∀ H, Reps S H dvs dd
theorem FnM.fnr {W : Wd} {S : Sg} {k : Nat} {q : Addr} {n : Nat} {dd : List D} {R : List D → Out → Prop} (F : FnM W S k q n dd R) : FnR W.P W.w W.K W.mg W.base (L2N.CX W.P W.w) k q (spM S n dd R) := by
  obtain ⟨fd, ps, F, hl, dvs, us, hb, hv, hd⟩ := F.ex
  refine (F.raw hb hv).imp fun vs H Q E ⟨M, ds, o, hn, tr, r, hR, ho⟩ => ?_
  exact ⟨by rw [List.length_append, hn, (hd H).length, hl], M, _, o, tr, r.append (hd _), hR, ho⟩
section
variable {X : Cx} {W : Wd} {S : Sg} {U : WX} {k j : Nat} {g : En} {P : Po} {e a b : Expr} {es : List Expr} {d da db : D} {ds dd : List D} {x y f m : Str} {i n c : Nat} {pos p p2 apos : Pos} {q : Addr} {R : List D → Out → Prop} {o : Out}
theorem run_SR {sp : Sp} {pins : List (Addr × Obj)} {σ : L2.St} {H : Hp} {s : Shared} {Q : VK} {ws : List Value} {vs : List V} (U : WX) (F : FnR X.prog X.w X.K X.mg X.base (L2N.CX X.prog X.w) k q sp) (hr : Room k X.A) (tk : L2N.Takes X U)
    (I : Inv X pins σ H s) (r : Vals vs ws) (h : sp vs H Q (WE U σ)) : wpAny (model X.prog X.w) X.A (call (.ref q) ws) (EP X pins σ Q) X.xe s := by
  refine wpAny_call (codeAny_mono (F X.A X.stack s H ws vs Q (WE U σ) hr I.env0 r h) fun r s' w => ?_)
  cases r with
  | error e => exact L2N.passAt tk σ pins H s e s' I w
  | ok fl =>
    cases fl with
    | ret u => exact I.after w
    | next => exact w.elim
    | brk => exact w.elim
    | cont => exact w.elim
theorem run_MQ {pins : List (Addr × Obj)} {σ : L2.St} {H : Hp} {s : Shared} {Q : VK} {us : List Value} {vs : List V} {M : List Addr} (C : Cc X W S k) (tk : L2N.Takes X U) (F : FnM W S j q n dd R) (hj : j ≤ k) (I : Inv X pins σ H s) (r : Vals vs us)
    (tr : ∀ a ∈ M, H a ≠ none) (rr : Reps S (hid M H) vs ds) (hn : ds.length = n) (hR : R (ds ++ dd) o) (kk : OutK S H M Q (fun c d H' => U c d σ H') o) : wpAny (model X.prog X.w) X.A (call (.ref q) us) (EP X pins σ Q) X.xe s := by
  have F' := F.fnr
  obtain ⟨⟨w1, w2, c3, c4⟩, c1, c2⟩ := C
  subst w1
  exact run_SR U F' (c2.mono hj) tk I r ⟨M, ds, o, by rw [rr.length, hn], tr, rr, hR, kk⟩

/-! ### instances -/
def clD (S : Sg) : D → Option Addr
  | .pt _ _ _ => some S.cP
  | .obj c _ => some (S.cO c)
  | _ => none
theorem Kb.kw (C : Kb X W S) : X.K = W.K := congrArg Wd.K C.wd
theorem inst_at {pins : List (Addr × Obj)} {σ : L2.St} {H : Hp} {s : Shared} {M : List Addr} {v : V} {A : Addr} (I : Inv X pins σ H s) (r : Rep S (hid M H) v d) (h : clD S d = some A) : ∃ a ox od, v = .ref a ∧ PySem.W.InstAt s.heap a ox A (some od) := by
  cases r with
  | pt hs hx hy ho =>
    cases h
    obtain ⟨sl, od, _, J, _⟩ := SlX.slt_inst I (slt_mono hid_le hs)
    exact ⟨_, _, od, rfl, J⟩
  | obj hs r =>
    cases h
    obtain ⟨mA, O, _⟩ := ins_get I.hok (hid_some hs).2
    obtain ⟨od, J, _⟩ := O.look
    exact ⟨_, _, od, rfl, J⟩
  | _ => cases h
theorem typ_at {pins : List (Addr × Obj)} {σ : L2.St} {H : Hp} {s : Shared} {M : List Addr} {v : V} {u : Value} (C : Kb X W S) (I : Inv X pins σ H s) (r : Rep S (hid M H) v d) (ru : RelV v u) : PySem.W.Looks (model X.prog X.w) s.heap (typeOf u) (tyD S d) := by
  cases hd : clD S d with
  | some A =>
    obtain ⟨a, ox, od, rfl, J⟩ := inst_at I r hd
    cases ru
    have e : tyD S d = .ref A := by
      cases d <;> cases hd <;> rfl
    rw [e]
    exact J.type
  | none =>
    have ok : isiOk W S d := by
      cases d <;> first | trivial | cases hd
    have ty := tyx_of (W := W) C.K r ok (fun x y o z => by subst z; cases hd)
    rw [← C.kw] at ty
    obtain ⟨Pn, Z, hP, _⟩ := kit_of I ru ty
    exact Z.ty _ _ I.kIn hP
/-- e op e', e an own instance whose class has a def for op -/
theorem c_own {op : CmpOp} {A : Addr} (C : Cc X W S k) (F : FnM W S j q 2 [] R) (hd : clD S da = some A) (hs : PySem.W.findIn W.K (.ref A) (cmpInfo op).2.1 = some (some (.ref q))) (hf : PySem.W.isFn W.K (.ref q) = true) (hn : PySem.W.notFirst W.K A (tyD S db) = true)
    (hR : R [da, db] (.ok d)) (hj : j ≤ k := by decide) (hop : ∀ a b, compareOp op a b = richCompare op a b := by exact fun _ _ => rfl) : BinD X S (compareOp op) da db d := by
  intro pins s σ H x y v u Q I rx ry ⟨M, tr, r, K⟩
  obtain ⟨x', y', e, q1, q2⟩ := r.two
  cases e
  obtain ⟨a, ox, od, rfl, J⟩ := inst_at I q1 hd
  cases rx
  obtain ⟨m, hF⟩ := I.fr
  rw [hop]
  rw [← C.kw] at hs hf hn
  refine PySem.W.cmp_K (op := op) C.room.units0 hF I.ok.mod.kin J (typ_at C.toKb I q2 ry) hn hs hf ?_
  refine wpAny_mono (run_MQ (vs := [.ref a, y]) (us := [.ref a, u]) C takes0 F hj I (.cons rfl (.cons ry .nil)) tr (.cons q1 (.cons q2 .nil)) rfl hR (Q := Q) fun v H' e r => K v H' e r) (fun w s' z => ?_) fun _ _ x => x
  obtain ⟨z', H', I', rz, qz⟩ := z
  exact SlX.cmpback rz ⟨z', H', I', rz, qz⟩
end

/-! ### points -/
section
variable {X : Cx} {W : Wd} {S : Sg} {U : WX} {k j : Nat} {g : En} {P : Po} {e : Expr} {es : List Expr} {d : D} {ds dd : List D} {x y f m : Str} {i n c : Nat} {pos p p2 apos : Pos} {q : Addr} {R : List D → Out → Prop} {o : Out} {px py po : Int}
theorem e_slot {iF z : Nat} {o' : Int} (C : Kb X W S) (T : PtC W S) (he : Fw.XE X S g e (.pt px py po)) (h1 : ∃ p, SlX.Slot1 W.K S.cP f p iF) (h2 : ∀ H v, Rep S H v (.pt px py po) → ∃ a dx vs, v = .ref a ∧ SlX.Slt H a S.cP dx vs ∧ vs[iF]? = some (some (.int o')))
    (hb : attributeBase e f X.env (eval e X.env) = eval e X.env := by rfl) : Fw.XE X S g (.Attribute e f pos) (.int o') := by
  obtain ⟨p, h1⟩ := h1
  refine peI (SlX.pe_sl he hb) fun σ H Q ⟨B, M, st, kk⟩ => ⟨B, M, st, fun v H1 e1 r => ?_⟩
  obtain ⟨a, dx, vs, rfl, hs, hv⟩ := h2 _ _ r
  exact ⟨a, S.cP, dx, p, vs, iF, .int o', rfl, slt_mono hid_le hs, by rw [C.kw]; exact T.scls, by rw [C.kw]; exact h1, hv, kk _ H1 e1 (.int _)⟩
theorem e_px (C : Kb X W S) (T : PtC W S) (he : Fw.XE X S g e (.pt px py po)) (hb : attributeBase e "x" X.env (eval e X.env) = eval e X.env := by rfl) : Fw.XE X S g (.Attribute e "x" pos) (.int px) :=
  e_slot (z := 0) C T he T.sx (fun H v r => by cases r with | pt h hx hy ho => exact ⟨_, _, _, rfl, h, hx⟩) hb
theorem e_py (C : Kb X W S) (T : PtC W S) (he : Fw.XE X S g e (.pt px py po)) (hb : attributeBase e "y" X.env (eval e X.env) = eval e X.env := by rfl) : Fw.XE X S g (.Attribute e "y" pos) (.int py) :=
  e_slot (z := 0) C T he T.sy (fun H v r => by cases r with | pt h hx hy ho => exact ⟨_, _, _, rfl, h, hy⟩) hb
theorem e_po (C : Kb X W S) (T : PtC W S) (he : Fw.XE X S g e (.pt px py po)) (hb : attributeBase e "over" X.env (eval e X.env) = eval e X.env := by rfl) : Fw.XE X S g (.Attribute e "over" pos) (.int po) :=
  e_slot (z := 0) C T he T.so (fun H v r => by cases r with | pt h hx hy ho => exact ⟨_, _, _, rfl, h, ho⟩) hb
/-- a property of points -/
structure PropC (W : Wd) (S : Sg) (f : Str) (k : Nat) (R : List D → Out → Prop) : Prop where
  ex : ∃ p q, PySem.W.findIn W.K (.ref S.cP) f = some (some (.ref p)) ∧ PySem.W.specialIn W.K (.ref p) "__get__" = some (some (.builtin "property.__get__")) ∧ PySem.W.takesIn W.K (.ref p) = some true ∧ (∃ rest, PySem.W.recIn W.K p "property" = some (.ref q :: rest)) ∧ FnM W S k q 1 [] R
theorem e_prop (C : Cc X W S k) (T : PtC W S) (Pc : PropC W S f j R) (he : Fw.XE X S g e (.pt px py po)) (hR : R [.pt px py po] (.ok d)) (hj : j + 1 ≤ k := by decide) (hb : attributeBase e f X.env (eval e X.env) = eval e X.env := by rfl) : Fw.XE X S g (.Attribute e f pos) d := by
  obtain ⟨p, q, h1, h2, h3, h4, F⟩ := Pc.ex
  have F' := F.fnr
  obtain ⟨⟨w1, w2, w3, w4⟩, c1, c2⟩ := C
  subst w1
  refine peI (SlX.pe_propSl (E := E0) he T.scls h1 h2 h3 h4 F' (c2.mono hj) (fun H s e s' z => ?_) hb) fun σ H Q ⟨B, M, st, kk⟩ => ⟨B, M, st, fun v H1 e1 r => ?_⟩
  · obtain ⟨_, _, _, _, _, _, _, _, _, _, _, _, z⟩ := z
    exact z
  · cases r with
    | pt h hx hy ho =>
      exact ⟨_, _, _, rfl, slt_mono hid_le h, M, _, _, rfl, (st.mono e1).trk, .cons (.pt h hx hy ho) .nil, hR, fun v H2 e2 r2 => kk v H2 (e1.trans e2) r2⟩

/-! ### Point(x, y, over) -/
def spInit (S : Sg) (R : List D → Out → Prop) : Sp := fun vs H Q E => ∃ a dx ws ds o, vs = .ref a :: ws ∧ Reps S H ws ds ∧ dx ≠ a ∧ H a = some (.ins S.cP dx []) ∧ H dx = some (.own a) ∧ (∀ H', Reps S H' ws ds) ∧ R ds o ∧
  match o with
  | .ok (.pt x y v) => ∀ us H', Same (hid [a, dx] H) H' → SlX.Slt H' a S.cP dx us → us[S.iX]? = some (some (.int x)) → us[S.iY]? = some (some (.int y)) → us[S.iO]? = some (some (.int v)) → Q .non H'
  | .ok _ => False
  | .err c fs => ∀ M dd us H', Same (hid [a, dx] H) H' → hid [a, dx] H dd = none → H' dd = some (.xd us) → RepF S (hid M H') us fs → E (.ref (S.cX c)) (some dd) H'
/-- self.f = e -/
def Sl.quiet : Sl → Bool
  | .no => true
  | .v _ => true
  | _ => false
theorem s_slt {a dx : Addr} {vs : List (Option V)} {v : Int} {iF : Nat} {pos' : Pos} (C : Kb X W S) (T : PtC W S) (N : Nm X i x) (hi : g[i]? = some (.pi a dx vs)) (he : Fw.XE X S g e (.int v)) (h1 : ∃ p, SlX.Slot1 W.K S.cP f p iF) (hq : ∀ j s, j ≠ i → g[j]? = some s → s.quiet = true)
    (h : P.nx (g.set i (.pi a dx (SlX.putS iF (.int v) vs)))) (hs : swapsWith e (some (.Attribute (.Name x p) f pos')) pos.line X.env = pure false := by rfl) : XS X S U g (.Assign [.Attribute (.Name x p) f pos'] e pos) P := by
  obtain ⟨p, h1⟩ := h1
  refine psI (SlX.ps_sl (pe_var N.n N.vis N.dbg N.cdt) he hs) fun E σ H ⟨B, M, st, c, _⟩ => ⟨B, M, st, fun y H1 e1 r => ?_⟩
  cases r
  obtain ⟨o, ho, e2, ma, md, z0, z1, ne, hsl, hd⟩ := st.sl i _ hi
  refine ⟨.ref a, by rw [ho, e2], a, S.cP, dx, p, vs, iF, rfl, slt_mono e1 hsl, by rw [C.kw]; exact T.scls, by rw [C.kw]; exact h1, ?_⟩
  have st1 := st.mono e1
  have hh : hid M (SlX.slH H1 a S.cP dx (SlX.putS iF (.int v) vs)) = hid M H1 := by
    unfold SlX.slH
    rw [hid_upd ma, hid_upd md]
  refine c.nx _ M _ _ h ⟨fun b u hb => ?_, st.sub, st.new, fun b hb => ?_, fun n s hn => ?_, by rw [hh]; exact st1.gh, fun n l s u _ hnl q1 q2 m1 m2 _ _ => ?_⟩
  · rw [SlX.slH_ne (ne_of_none hb z0) (ne_of_none hb z1)]
    exact st1.same _ _ hb
  · by_cases b1 : b = a
    · rw [b1]; unfold SlX.slH; rw [upd_same]; exact fun z => nomatch z
    · by_cases b2 : b = dx
      · rw [b2]; unfold SlX.slH; rw [upd_ne ne, upd_same]; exact fun z => nomatch z
      · rw [SlX.slH_ne b1 b2]; exact st1.trk b hb
  · by_cases q : i = n
    · subst q
      obtain ⟨q, _⟩ := set_get hn
      subst q
      exact ⟨o, ho, e2, ma, md, z0, z1, ne, SlX.slH_slt ne, .inr (by unfold SlX.slH; rw [upd_ne ne, upd_same])⟩
    · rw [List.getElem?_set_ne q] at hn
      have qs := hq n s (Ne.symm q) hn
      obtain ⟨w, hw, r⟩ := st1.sl n s hn
      refine ⟨w, hw, ?_⟩
      cases s with
      | no => exact True.intro
      | v d =>
        obtain ⟨y, e3, r3⟩ := r
        exact ⟨y, e3, by rw [hh]; exact r3⟩
      | _ => cases qs
  · have noMine : ∀ {n : Nat} {s : Sl}, n ≠ i → (g.set i (.pi a dx (SlX.putS iF (.int v) vs)))[n]? = some s → s.mine = true → False := fun {n s} q1 q2 q3 => by
      rw [List.getElem?_set_ne (Ne.symm q1)] at q2
      have := hq n s q1 q2
      cases s <;> first | (cases q3; done) | (cases this; done)
    by_cases q : n = i
    · exact noMine (fun z => hnl (q.trans z.symm)) q2 m2
    · exact noMine q q1 m1
end
end Fw

set_option Elab.async false
set_option linter.all false
set_option maxRecDepth 100000
set_option maxHeartbeats 4000000
namespace Fw
open PySem L2

/-! ### bodies whose first name is their own object -/
theorem enOf_quiet {n i : Nat} {ds : List D} {s : Sl} (h : (enOf n ds)[i]? = some s) : s.quiet = true := by
  have hm : s ∈ enOf n ds := List.mem_of_getElem? h
  unfold enOf at hm
  rcases List.mem_append.mp hm with z | z
  · obtain ⟨d, _, rfl⟩ := List.mem_map.mp z
    rfl
  · rw [(List.mem_replicate.mp z).2]
    rfl
theorem RS.other {S : Sg} {B B' : Bs} {M : List Addr} {H : Hp} {s : Sl} {o : Option V} (q : s.quiet = true) (r : RS S B M H s o) : RS S B' M H s o := by
  cases s <;> first | exact r | cases q
theorem start_cons {N : List Str} {v : V} {ws : List V} : L2.start N (v :: ws) = some v :: L2.start N.tail ws := by
  unfold L2.start
  rw [List.map_cons, List.cons_append, List.length_cons, List.length_tail]
  congr 3
  omega
theorem stt_start1 {S : Sg} {B : Bs} {M : List Addr} {H : Hp} {N : List Str} {v : V} {ws : List V} {ds : List D} {s0 : Sl} (same : Same B.H0 H) (sub : ∀ a ∈ B.M0, a ∈ M) (new : ∀ a ∈ M, a ∈ B.M0 ∨ B.H0 a = none) (trk : ∀ a ∈ M, H a ≠ none) (gh : B.G (hid M H))
    (r0 : RS S B M H s0 (some v)) (r : Reps S (hid M H) ws ds) : Stt S B M (s0 :: enOf N.tail.length ds) (L2.start N (v :: ws)) H := by
  have S1 := stt_start (N := N.tail) trk r
  refine ⟨same, sub, new, trk, fun i s hi => ?_, gh, fun i l s u y hil h1 h2 m1 m2 _ _ => ?_⟩
  · rw [start_cons]
    cases i with
    | zero =>
      cases hi
      exact ⟨_, rfl, r0⟩
    | succ i =>
      obtain ⟨o, ho, rr⟩ := S1.sl i s hi
      exact ⟨o, ho, rr.other (enOf_quiet hi)⟩
  · have no : ∀ {n : Nat} {s : Sl}, (enOf N.tail.length ds)[n]? = some s → s.mine = true → False := fun {n s} q1 q2 => by
      have q := enOf_quiet q1
      cases s <;> first | (cases q2; done) | (cases q; done)
    cases i with
    | zero =>
      cases l with
      | zero => exact hil rfl
      | succ l => exact no h2 m2
    | succ i => exact no h1 m1
/-- the promise of Point.__init__ -/
def InitK (S : Sg) (H : Hp) (a dx : Addr) (Q : VK) (E : XK) : Out → Prop
  | .ok (.pt x y v) => ∀ us H', Same (hid [a, dx] H) H' → SlX.Slt H' a S.cP dx us → us[S.iX]? = some (some (.int x)) → us[S.iY]? = some (some (.int y)) → us[S.iO]? = some (some (.int v)) → Q .non H'
  | .ok _ => False
  | .err c fs => ∀ M dd us H', Same (hid [a, dx] H) H' → hid [a, dx] H dd = none → H' dd = some (.xd us) → RepF S (hid M H') us fs → E (.ref (S.cX c)) (some dd) H'
def spPt (S : Sg) (R : Int → Int → Int → Out → Prop) : Sp := fun vs H Q E => ∃ a dx x y v o, vs = [.ref a, .int x, .int y, .int v] ∧ dx ≠ a ∧ H a = some (.ins S.cP dx []) ∧ H dx = some (.own a) ∧ R x y v o ∧ InitK S H a dx Q E o
def poPt (S : Sg) (a dx : Addr) : Out → Po
  | .ok (.pt x y v) => { nx := fun g => ∃ us, g[0]? = some (.pi a dx us) ∧ us[S.iX]? = some (some (.int x)) ∧ us[S.iY]? = some (some (.int y)) ∧ us[S.iO]? = some (some (.int v)), rt := fun _ => False }
  | .ok _ => { nx := fun _ => False, rt := fun _ => False }
  | .err c fs => { nx := fun _ => False, rt := fun _ => False, ex := fun c' fs' _ => c' = c ∧ fs' = fs }
theorem pt_init {W : Wd} {S : Sg} {x qual : Str} {st : Stmt} {f : Addr} {fd : FuncData} {N ps : List Str} {k : Nat} {R : Int → Int → Int → Out → Prop} {dvs : List V} (F : Fd W.K x qual st dvs f fd) (hK : W.K = S.K) (sc : FnScope N ps (defScope st)) (hps : ps.length = 4)
    (body : ∀ (X : Cx) (U : WX) (a dx : Addr) (p q v : Int) (o : Out), InB X W S k N (defScope st) U → R p q v o → XB X S U (.pi a dx [] :: enOf N.tail.length [.int p, .int q, .int v]) (defBody st) (poPt S a dx o)) :
    FnOk W.P W.w W.K W.mg W.base (L2N.CX W.P W.w) (k + 1) f fd ps (spPt S R) := by
  obtain ⟨oc, od, dV, kV, doc, pm, an, cdv, ct, osl, rfl, lk, hcd, _, _⟩ := F.ex
  refine fn_of lk hcd sc (fun vs H Q E ⟨_, _, _, _, _, _, e, _⟩ => by rw [e, hps]; rfl) (fun A outer s H vs Q E hr h => ?_)
  obtain ⟨a, dx, p, q, v, o, rfl, ne, ha, hd, hR, ho⟩ := h
  refine ⟨_, body _ (fun cls d _ H => E cls d H) a dx p q v o ⟨⟨⟨rfl, hK, passes_of rfl, sc.nd⟩, rfl, rfl, fun _ => rfl⟩, ⟨⟨rfl, hK, passes_of rfl, sc.nd⟩, rfl, hr⟩, L2N.takes_of rfl rfl rfl rfl, rfl, rfl⟩ hR, ?_⟩
  have ha0 : hid [a, dx] H a = none := by unfold hid; rw [if_pos List.mem_cons_self]
  have hd0 : hid [a, dx] H dx = none := by unfold hid; rw [if_pos (List.mem_cons_of_mem _ List.mem_cons_self)]
  refine ⟨⟨hid [a, dx] H, [], fun _ => True, fun _ _ _ _ => trivial⟩, [a, dx], stt_start1 hid_le (fun _ z => nomatch z) (fun b hb => .inr ?_) (fun b hb => ?_) trivial ⟨rfl, List.mem_cons_self, List.mem_cons_of_mem _ List.mem_cons_self, ha0, hd0, ne, .inl ⟨ha, rfl⟩, .inl hd⟩ (.cons (.int _) (.cons (.int _) (.cons (.int _) .nil))), ?_, ?_⟩
  · show hid [a, dx] H b = none
    unfold hid; rw [if_pos hb]
  · rcases List.mem_cons.mp hb with z | z
    · rw [z, ha]; exact fun z => nomatch z
    · rw [List.mem_singleton.mp z, hd]; exact fun z => nomatch z
  · have nn : ∀ z : False, (poPt S a dx o).rt = (poPt S a dx o).rt := fun z => z.elim
    cases o with
    | ok d =>
      cases d with
      | pt x y w =>
        refine ⟨fun g M t H' ⟨us, h0, h1, h2, h3⟩ st => ?_, fun _ _ _ z => z.elim, fun _ _ _ _ z => z.elim, fun _ _ _ _ z => z.elim⟩
        obtain ⟨_, _, _, _, _, _, _, _, hs, _⟩ := st.sl 0 _ h0
        exact ho us H' st.same hs h1 h2 h3
      | _ => exact ho.elim
    | err c fs => exact ⟨fun _ _ _ _ z => z.elim, fun _ _ _ z => z.elim, fun _ _ _ _ z => z.elim, fun _ _ _ _ z => z.elim⟩
  · intro c fs dd ws g M t H' hx st hn hw rf
    cases o with
    | ok d => cases d <;> exact hx.elim
    | err c' fs' =>
      obtain ⟨rfl, rfl⟩ := hx
      exact ho M dd ws H' st.same hn hw rf
def isInt : D → Bool
  | .int _ => true
  | _ => false
def outP : Out → Bool
  | .ok (.pt _ _ _) => true
  | .ok _ => false
  | .err _ fs => fs.all fun q => isInt q.2
theorem RepF.ints {S : Sg} {H H' : Hp} : ∀ {ws : List (Str × V)} {fs : List (Str × D)}, (fs.all fun q => isInt q.2) = true → RepF S H ws fs → RepF S H' ws fs
  | [], [], _, _ => .nil
  | [], _ :: _, _, r => by cases r
  | _ :: _, [], _, r => by cases r
  | (f, v) :: ws, (f', d) :: fs, h, r => by
    rw [List.all_cons, Bool.and_eq_true] at h
    cases r with
    | cons r t =>
      refine .cons ?_ (RepF.ints h.2 t)
      cases d <;> first | (cases r; exact .int _) | (exact absurd h.1 Bool.false_ne_true)
/-- the class of points, as it is called -/
structure PtI (W : Wd) (S : Sg) (k n : Nat) (dd : List D) (R : Int → Int → Int → Out → Prop) : Prop where
  gC : W.mg "Point" = some (.ref S.cP)
  ex : ∃ f fd ps, Mk W.K S.cP f ∧ FnOk W.P W.w W.K W.mg W.base (L2N.CX W.P W.w) k f fd ps (spPt S R) ∧ ps.length = 4 ∧ ∃ dvs us, Binds W.K fd ps us ∧ Vals dvs us ∧ ∀ H, Reps S H dvs dd
section
variable {X : Cx} {W : Wd} {S : Sg} {U : WX} {k j : Nat} {g : En} {P : Po} {e : Expr} {es : List Expr} {d : D} {ds dd : List D} {x y f m : Str} {i n c : Nat} {pos p p2 apos : Pos} {q : Addr} {R : Int → Int → Int → Out → Prop} {o : Out} {px py po : Int}
theorem made_run {f C : Addr} {fd : FuncData} {ps : List Str} {sp : Sp} {dvs : List V} {us0 : List Value} {pins : List (Addr × Obj)} {σ : L2.St} {H : Hp} {s : Shared} {Q : VK} {us : List Value} {vs : List V} (M : Mk X.K C f) (F : FnOk X.prog X.w X.K X.mg X.base (L2N.CX X.prog X.w) k f fd ps sp)
    (hr : Room (k + 1) X.A) (hb : Binds X.K fd ps us0) (hd : Vals dvs us0) (tk : L2N.Takes X U) (I : Inv X pins σ H s) (r : Vals vs us)
    (h : ∀ x dx, H x = none → H dx = none → dx ≠ x → sp (.ref x :: (vs ++ dvs)) (upd (upd H dx (.own x)) x (.ins C dx [])) (fun v H2 => v = .non ∧ Q (.ref x) H2) (WE U σ)) : wpAny (model X.prog X.w) X.A (call (.ref C) us) (EP X pins σ Q) X.xe s := by
  obtain ⟨z, hz⟩ : ∃ z, z = s.heap.objs.size := ⟨_, rfl⟩
  have hq := h (z + 1) z (by rw [hz]; exact I.hok.fresh (Nat.le_succ _)) (by rw [hz]; exact I.hok.fresh (Nat.le_refl _)) (Nat.ne_of_lt (Nat.lt_succ_self _))
  subst hz
  have J := Inv.made (C := C) I
  have r2 : Vals (V.ref (s.heap.objs.size + 1) :: (vs ++ dvs)) (Value.ref (s.heap.objs.size + 1) :: (us ++ us0)) := .cons rfl (r.append hd)
  have hl : (Value.ref (s.heap.objs.size + 1) :: us ++ us0).length = ps.length := by
    rw [← F.len _ _ _ _ hq]; exact r2.length.symm
  have run := F.run _ X.stack _ _ ⟨Value.ref (s.heap.objs.size + 1) :: us, []⟩ _ _ _ (WE U σ) (hr.make C us []) (J.env0.make C us []) (hb _ (Value.ref (s.heap.objs.size + 1) :: us) J.kIn hl) r2 hq
  refine wpAny_call (make_map (f := f) I.kIn M.makes M.init (beq_iff_eq.mp M.fn) (codeAny_mono run fun w s' q => ?_))
  cases w with
  | error e => exact L2N.passAt tk σ pins _ _ e s' J q
  | ok fl =>
    cases fl with
    | ret u =>
      obtain ⟨v, H', J3, rv, ev, q3⟩ := J.after q
      subst ev
      exact ⟨rv, .ref (s.heap.objs.size + 1), H', J3, rfl, q3⟩
    | next => exact q.elim
    | brk => exact q.elim
    | cont => exact q.elim
theorem Reps.three {H : Hp} {vs : List V} (r : Reps S H vs [.int px, .int py, .int po]) : vs = [.int px, .int py, .int po] := by
  cases r with
  | cons h t =>
    obtain ⟨y, z, rfl, q1, q2⟩ := t.two
    cases h
    cases q1
    cases q2
    rfl
theorem q_pt (C : Cc X W S k) (tk : L2N.Takes X U) (F : PtI W S j n dd R) (G : Ng X "Point") (ha : XA X S g (e :: es) ds) (hd : ds ++ dd = [.int px, .int py, .int po]) (hR : R px py po o) (hO : outP o = true := by rfl) (hj : j + 1 ≤ k := by decide)
    (he : starEach (e :: es) X.env = (false, eval e X.env) :: starEach es X.env := by rfl) (hpl : (backTo pos (starEach es X.env)).any (·.1) = false := by rfl) : XQ X S U g (.Call (.Name "Point" p) (e :: es) [] pos) o := by
  obtain ⟨f, fd, ps, mk, F1, hl, dvs, us, hb, hv, hdd⟩ := F.ex
  have gC := F.gC
  obtain ⟨⟨w1, w2, c3, c4⟩, c1, c2⟩ := C
  subst w1
  refine ⟨fun pins s σ H Q I w => ?_⟩
  obtain ⟨B, M, st, kk⟩ := w
  refine wpAny_Call_Name_kw (ld_glob I G.gl gC ?_ G.dbg)
  refine PySem.W.callWith_K (h₀ := X.base) I.ok.mod.kin mk.kp (wpAny_mono (ha.run pos pins s σ H (fun vs H1 => Same H H1 ∧ Reps S (hid M H1) vs ds) I ⟨B, M, st, fun vs H1 e1 r => ⟨e1, r⟩⟩) (fun ws s1 w => ?_) fun _ _ z => z) he hpl
  obtain ⟨vs, H1, I1, r1, e1, rr⟩ := w
  have r3 := rr.append (hdd (hid M H1))
  rw [hd] at r3
  refine ⟨I1.kIn, made_run mk F1 (c2.mono hj) hb hv tk I1 r1 fun a dx ha hdx ne => ⟨a, dx, px, py, po, o, by rw [r3.three], ne, upd_same, by rw [upd_ne ne]; exact upd_same, hR, ?_⟩⟩
  have st1 := st.mono e1
  have hs : Same H1 (hid [a, dx] (upd (upd H1 dx (.own a)) a (.ins S.cP dx []))) := fun b u hb => by
    have n1 := ne_of_none hb ha
    have n2 := ne_of_none hb hdx
    refine hid_of (fun z => ?_) (by rw [upd_ne n1, upd_ne n2]; exact hb)
    rcases List.mem_cons.mp z with z | z
    · exact n1 z
    · exact n2 (List.mem_singleton.mp z)
  cases o with
  | ok d =>
    cases d with
    | pt x y v =>
      intro us2 H2 e2 sl h1 h2 h3
      refine ⟨rfl, kk _ H2 (e1.trans (hs.trans e2)) (.pt (dx := dx) ?_ h1 h2 h3)⟩
      rcases sl with ⟨s1, s2⟩ | ⟨s1, s2⟩
      · exact .inl ⟨hid_of (st1.nm ha) s1, s2⟩
      · exact .inr ⟨hid_of (st1.nm ha) s1, hid_of (st1.nm hdx) s2⟩
    | _ => cases hO
  | err c fs =>
    intro M' dd' us2 H2 e2 hn hw rf
    refine kk dd' us2 H2 (e1.trans (hs.trans e2)) ?_ hw (rf.ints hO)
    exact e1.free (hs.free hn)
/-- Point(..) -/
theorem e_pt (C : Cc X W S k) (F : PtI W S j n dd R) (G : Ng X "Point") (ha : XA X S g (e :: es) ds) (hd : ds ++ dd = [.int px, .int py, .int po]) (hR : R px py po (.ok d)) (hO : outP (.ok d) = true := by rfl) (hj : j + 1 ≤ k := by decide)
    (he : starEach (e :: es) X.env = (false, eval e X.env) :: starEach es X.env := by rfl) (hpl : (backTo pos (starEach es X.env)).any (·.1) = false := by rfl) : Fw.XE X S g (.Call (.Name "Point" p) (e :: es) [] pos) d :=
  q_pt C takes0 F G ha hd hR hO hj he hpl
theorem r_pt {fs : List (Str × D)} (C : Cc X W S k) (tk : L2N.Takes X U) (F : PtI W S j n dd R) (G : Ng X "Point") (ha : XA X S g (e :: es) ds) (hd : ds ++ dd = [.int px, .int py, .int po]) (hR : R px py po (.err c fs)) (hO : outP (.err c fs) = true := by rfl) (hj : j + 1 ≤ k := by decide)
    (he : starEach (e :: es) X.env = (false, eval e X.env) :: starEach es X.env := by rfl) (hpl : (backTo pos (starEach es X.env)).any (·.1) = false := by rfl) : XR X S U g (.Call (.Name "Point" p) (e :: es) [] pos) c fs :=
  q_pt C tk F G ha hd hR hO hj he hpl
end
end Fw

set_option Elab.async false
set_option linter.all false
set_option maxRecDepth 100000
set_option maxHeartbeats 4000000
namespace Fw
open PySem L2

/-! ### the __init__ of errors -/
section
variable {W : Wd} {S : Sg} {qual : Str} {st : Stmt} {f : Addr} {fd : FuncData} {C : Addr} {x y : Str} {p1 p2 p3 p4 q1 q2 q3 q4 : Pos}
theorem nm_of {X : Cx} {N : List Str} {sc : Scope} {i : Nat} {x : Str} (hN : X.N = N) (hs : X.env.scope = sc) (h : N[i]? = some x) (hv : sc.names.lookup x = some .local ∨ sc.names.lookup x = some .cell) (h1 : (x == ("__debug__" : Str)) = false) (h2 : (x == ("__classdict__" : Str)) = false) : Nm X i x :=
  ⟨by rw [hN]; exact h, by unfold Vis; rw [hs]; exact hv.elim .inl fun z => .inr (.inl z), h1, h2⟩
theorem err_body1 {X : Cx} (n0 : Nm X 0 "self") (n1 : Nm X 1 x) (ox : OexC X.K C) (nf : PySem.W.findIn X.K (.ref C) x = some none) {a : Addr} {u : V} :
    PSs X [.Assign [.Attribute (.Name "self" p1) x p2] (.Name x p3) p4] (fun E t H => t[1]? = some (some u) ∧ t[0]? = some (some (.ref a)) ∧ H a = some (exo a C none) ∧ ∀ d, H d = none → d ≠ a → E.nx t (upd (upd H d (exd d [(x, u)])) a (exo a C (some d)))) := by
  refine psbI (pss_cons (ps_ost (pe_var n0.n n0.vis n0.dbg n0.cdt) (pe_var n1.n n1.vis n1.dbg n1.cdt) (hs := by rfl)) pss_nil) fun E t H ⟨t1, t0, ha, K⟩ => ?_
  exact ⟨u, t1, .ref a, t0, a, C, rfl, ox, nf, .inl ⟨ha, fun dx hd hn => K dx hd hn⟩⟩
theorem err_body2 {X : Cx} (n0 : Nm X 0 "self") (n1 : Nm X 1 x) (n2 : Nm X 2 y) (ox : OexC X.K C) (nf : PySem.W.findIn X.K (.ref C) x = some none) (ng : PySem.W.findIn X.K (.ref C) y = some none) {a : Addr} {u z : V} :
    PSs X [.Assign [.Attribute (.Name "self" p1) x p2] (.Name x p3) p4, .Assign [.Attribute (.Name "self" q1) y q2] (.Name y q3) q4]
      (fun E t H => t[1]? = some (some u) ∧ t[2]? = some (some z) ∧ t[0]? = some (some (.ref a)) ∧ H a = some (exo a C none) ∧ ∀ d, H d = none → d ≠ a → E.nx t (upd (upd H d (exd d [(y, z), (x, u)])) a (exo a C (some d)))) := by
  refine psbI (pss_cons (ps_ost (pe_var n0.n n0.vis n0.dbg n0.cdt) (pe_var n1.n n1.vis n1.dbg n1.cdt) (hs := by rfl))
    (pss_cons (ps_ost (pe_var n0.n n0.vis n0.dbg n0.cdt) (pe_var n2.n n2.vis n2.dbg n2.cdt) (hs := by rfl)) pss_nil)) fun E t H ⟨t1, t2, t0, ha, K⟩ => ?_
  refine ⟨u, t1, .ref a, t0, a, C, rfl, ox, nf, .inl ⟨ha, fun dx hd hn => ⟨z, t2, .ref a, t0, a, C, rfl, ox, ng, .inr ⟨dx, [(x, u)], upd_same, by rw [upd_ne hn]; exact upd_same, Nat.le_of_ble_eq_true rfl, ?_⟩⟩⟩⟩
  have e : upd (upd (upd H dx (exd dx [(x, u)])) a (exo a C (some dx))) dx (exd dx ((y, z) :: [(x, u)])) = upd (upd H dx (exd dx [(y, z), (x, u)])) a (exo a C (some dx)) := by
    funext b
    by_cases b1 : b = dx
    · rw [b1, upd_same, upd_ne hn, upd_same]
    · by_cases b2 : b = a
      · rw [b2, upd_ne (Ne.symm hn), upd_same, upd_same]
      · rw [upd_ne b1, upd_ne b2, upd_ne b1, upd_ne b2, upd_ne b1]
  show E.nx t (upd (upd (upd H dx (exd dx [(x, u)])) a (exo a C (some dx))) dx (exd dx ((y, z) :: [(x, u)])))
  rw [e]
  exact K dx hd hn
theorem err_init1 {dvs : List V} (F : Fd W.K "__init__" qual st dvs f fd) (sc : FnScope ["self", x] ["self", x] (defScope st)) (hb : defBody st = [.Assign [.Attribute (.Name "self" p1) x p2] (.Name x p3) p4]) (ox : OexC W.K C) (nf : PySem.W.findIn W.K (.ref C) x = some none)
    (v0 : (defScope st).names.lookup ("self" : Str) = some .local ∨ (defScope st).names.lookup ("self" : Str) = some .cell) (v1 : (defScope st).names.lookup x = some .local ∨ (defScope st).names.lookup x = some .cell) (h1 : (x == ("__debug__" : Str)) = false) (h2 : (x == ("__classdict__" : Str)) = false) :
    FnOk W.P W.w W.K W.mg W.base (L2N.CX W.P W.w) 1 f fd ["self", x] (errSp C [x]) := by
  obtain ⟨oc, od, dV, kV, doc, pm, an, cdv, ct, osl, rfl, lk, hcd, _, _⟩ := F.ex
  refine fn_of lk hcd sc (fun vs H Q E ⟨a, us, e, hl, _⟩ => by rw [e, List.length_cons, hl]; rfl) (fun A outer s H vs Q E hr h => ?_)
  obtain ⟨a, us, rfl, hl, ha, K⟩ := h
  obtain ⟨u, rfl⟩ : ∃ u, us = [u] := by
    cases us with
    | nil => cases hl
    | cons u r => cases r with
      | nil => exact ⟨u, rfl⟩
      | cons _ _ => cases hl
  refine ⟨fun E t H => t[1]? = some (some u) ∧ t[0]? = some (some (.ref a)) ∧ H a = some (exo a C none) ∧ ∀ d, H d = none → d ≠ a → E.nx t (upd (upd H d (exd d [(x, u)])) a (exo a C (some d))), ?_, ?_⟩
  · rw [hb]
    exact err_body1 (nm_of rfl rfl rfl v0 (by decide) (by decide)) (nm_of rfl rfl rfl v1 h1 h2) ox nf
  · exact ⟨rfl, rfl, ha, fun d hd hn => K d hd hn⟩
theorem err_init2 {dvs : List V} (F : Fd W.K "__init__" qual st dvs f fd) (sc : FnScope ["self", x, y] ["self", x, y] (defScope st)) (hb : defBody st = [.Assign [.Attribute (.Name "self" p1) x p2] (.Name x p3) p4, .Assign [.Attribute (.Name "self" q1) y q2] (.Name y q3) q4]) (ox : OexC W.K C)
    (nf : PySem.W.findIn W.K (.ref C) x = some none) (ng : PySem.W.findIn W.K (.ref C) y = some none)
    (v0 : (defScope st).names.lookup ("self" : Str) = some .local ∨ (defScope st).names.lookup ("self" : Str) = some .cell) (v1 : (defScope st).names.lookup x = some .local ∨ (defScope st).names.lookup x = some .cell) (v2 : (defScope st).names.lookup y = some .local ∨ (defScope st).names.lookup y = some .cell)
    (h1 : (x == ("__debug__" : Str)) = false) (h2 : (x == ("__classdict__" : Str)) = false) (h3 : (y == ("__debug__" : Str)) = false) (h4 : (y == ("__classdict__" : Str)) = false) :
    FnOk W.P W.w W.K W.mg W.base (L2N.CX W.P W.w) 1 f fd ["self", x, y] (errSp C [x, y]) := by
  obtain ⟨oc, od, dV, kV, doc, pm, an, cdv, ct, osl, rfl, lk, hcd, _, _⟩ := F.ex
  refine fn_of lk hcd sc (fun vs H Q E ⟨a, us, e, hl, _⟩ => by rw [e, List.length_cons, hl]; rfl) (fun A outer s H vs Q E hr h => ?_)
  obtain ⟨a, us, rfl, hl, ha, K⟩ := h
  obtain ⟨u, z, rfl⟩ : ∃ u z, us = [u, z] := by
    cases us with
    | nil => cases hl
    | cons u r => cases r with
      | nil => cases hl
      | cons z r => cases r with
        | nil => exact ⟨u, z, rfl⟩
        | cons _ _ => cases hl
  refine ⟨fun E t H => t[1]? = some (some u) ∧ t[2]? = some (some z) ∧ t[0]? = some (some (.ref a)) ∧ H a = some (exo a C none) ∧ ∀ d, H d = none → d ≠ a → E.nx t (upd (upd H d (exd d [(y, z), (x, u)])) a (exo a C (some d))), ?_, ?_⟩
  · rw [hb]
    exact err_body2 (nm_of rfl rfl rfl v0 (by decide) (by decide)) (nm_of rfl rfl rfl v1 h1 h2) (nm_of rfl rfl rfl v2 h3 h4) ox nf ng
  · exact ⟨rfl, rfl, rfl, ha, fun d hd hn => K d hd hn⟩
end
end Fw

set_option Elab.async false
set_option linter.all false
set_option maxRecDepth 100000
set_option maxHeartbeats 4000000
namespace Fw
open PySem L2

/-! ### sizes of numbers -/
class Bd (i : Int) (n : outParam Nat) : Prop where
  h : i.natAbs < 2 ^ n
theorem pow_le {a b : Nat} (h : a ≤ b) : (2 : Nat) ^ a ≤ 2 ^ b := Nat.pow_le_pow_right (by decide) h
theorem Bd.up {i : Int} {n m : Nat} (b : Bd i n) (h : n ≤ m) : i.natAbs < 2 ^ m := Nat.lt_of_lt_of_le b.h (pow_le h)
instance bd_lit {k : Nat} : Bd (no_index (OfNat.ofNat k : Int)) (k.log2 + 1) := ⟨by
  show (Int.natAbs (k : Int)) < _
  rw [Int.natAbs_natCast]
  exact Nat.lt_log2_self⟩
instance bd_add {a b : Int} {n m : Nat} [x : Bd a n] [y : Bd b m] : Bd (a + b) (max n m + 1) := ⟨by
  have h1 := x.up (Nat.le_max_left n m)
  have h2 := y.up (Nat.le_max_right n m)
  have h3 := Int.natAbs_add_le a b
  have h4 : 2 ^ (max n m + 1) = 2 ^ max n m * 2 := Nat.pow_succ _ _
  omega⟩
instance bd_sub {a b : Int} {n m : Nat} [x : Bd a n] [y : Bd b m] : Bd (a - b) (max n m + 1) := ⟨by
  have h1 := x.up (Nat.le_max_left n m)
  have h2 := y.up (Nat.le_max_right n m)
  have h3 := Int.natAbs_sub_le a b
  have h4 : 2 ^ (max n m + 1) = 2 ^ max n m * 2 := Nat.pow_succ _ _
  omega⟩
instance bd_mul {a b : Int} {n m : Nat} [x : Bd a n] [y : Bd b m] : Bd (a * b) (n + m) := ⟨by
  rw [Int.natAbs_mul, Nat.pow_add]
  exact Nat.mul_lt_mul_of_lt_of_lt x.h y.h⟩
instance bd_neg {a : Int} {n : Nat} [x : Bd a n] : Bd (-a) n := ⟨by rw [Int.natAbs_neg]; exact x.h⟩
instance bd_div {a b : Int} {n : Nat} [x : Bd a n] : Bd (a / b) n := ⟨Nat.lt_of_le_of_lt (Int.natAbs_ediv_le_natAbs a b) x.h⟩
instance bd_mod {a b : Int} {n m : Nat} [x : Bd a n] [y : Bd b m] : Bd (a % b) (max n m) := ⟨by
  have h1 := x.up (Nat.le_max_left n m)
  have h2 := y.up (Nat.le_max_right n m)
  by_cases hb : b = 0
  · rw [hb, Int.emod_zero]; exact h1
  · have e1 := Int.emod_nonneg a hb
    have e2 := Int.emod_lt a hb
    omega⟩
instance bd_ite {c : Prop} [Decidable c] {a b : Int} {n m : Nat} [x : Bd a n] [y : Bd b m] : Bd (if c then a else b) (max n m) := ⟨by
  split
  · exact x.up (Nat.le_max_left n m)
  · exact y.up (Nat.le_max_right n m)⟩
instance bd_abs {a : Int} {n : Nat} [x : Bd a n] : Bd ((a.natAbs : Nat) : Int) n := ⟨by rw [Int.natAbs_natCast]; exact x.h⟩
theorem gcd_le {a b : Int} : Int.gcd a b ≤ max a.natAbs b.natAbs := by
  by_cases h : a = 0
  · subst h
    rw [Int.gcd_zero_left]
    omega
  · have := Nat.le_of_dvd (by omega) (Int.gcd_dvd_natAbs_left a b)
    omega
instance bd_gcd {a b : Int} {n m : Nat} [x : Bd a n] [y : Bd b m] : Bd ((Int.gcd a b : Nat) : Int) (max n m) := ⟨by
  have h1 := x.up (Nat.le_max_left n m)
  have h2 := y.up (Nat.le_max_right n m)
  have h3 := gcd_le (a := a) (b := b)
  rw [Int.natAbs_natCast]
  omega⟩
theorem log_bd {i : Int} {n : Nat} (b : Bd i n) : i.natAbs.log2 ≤ n := by
  by_cases h : i.natAbs = 0
  · rw [h]; exact Nat.zero_le _
  · exact Nat.le_of_lt ((Nat.log2_lt h).mpr b.h)
theorem cmul {i j : Int} {n m : Nat} [x : Bd i n] [y : Bd j m] (h : n + m < 1000000) : CMulW i j := by
  have := log_bd x
  have := log_bd y
  unfold CMulW
  omega
theorem cdiv {i j : Int} {m : Nat} [y : Bd j m] (h0 : 0 < j) (h : m < 9000) : CDivW i j := ⟨h0, by have := log_bd y; omega⟩

/-! ### lists of numbers -/
theorem atI_nat {α : Type} {l : List α} {n : Nat} {x : α} (h : l[n]? = some x) : atI l (n : Int) = some x := by
  have hl : n < l.length := (List.getElem?_eq_some_iff.mp h).1
  unfold atI
  have e : ixN l.length (n : Int) = some n := by
    unfold ixN
    rw [if_pos (by omega), if_pos (by omega)]
    first | rfl | (congr 1; omega)
  rw [e]
  exact h
theorem atI_int {l : List Int} {i : Int} (h0 : 0 ≤ i) (h : i < l.length) : atI (l.map D.int) i = some (.int (l.getD i.toNat 0)) := by
  have e : ((i.toNat : Nat) : Int) = i := Int.toNat_of_nonneg h0
  have hn : i.toNat < l.length := by omega
  rw [← e]
  refine atI_nat ?_
  rw [Int.toNat_natCast, List.getElem?_map, List.getElem?_eq_getElem hn, List.getD_eq_getElem?_getD, List.getElem?_eq_getElem hn]
  rfl
theorem itOf_int {l : List Int} {i : Nat} (h : i < l.length) : itOf (l.map D.int) i = .int (l.getD i 0) := by
  unfold itOf
  rw [List.getD_eq_getElem?_getD, List.getD_eq_getElem?_getD, List.getElem?_map, List.getElem?_eq_getElem h]
  rfl
theorem flats_int : ∀ l : List Int, flats (l.map D.int) = true
  | [] => rfl
  | _ :: l => by
    unfold List.map flats
    rw [flats_int l]
    rfl
/-- how deep a datum is -/
def deep : D → Nat
  | .tup xs => deeps xs + 1
  | .lst xs => deeps xs + 1
  | _ => 0
where deeps : List D → Nat
  | [] => 0
  | d :: ds => max (deep d) (deeps ds)
end Fw
namespace Fw
open PySem L2
def quietB : Nat → En → Bool
  | _, [] => true
  | 0, _ :: g => g.all Sl.quiet
  | i + 1, s :: g => s.quiet && quietB i g
theorem quietB_ok : ∀ {i : Nat} {g : En}, quietB i g = true → ∀ j s, j ≠ i → g[j]? = some s → s.quiet = true
  | _, [], _, j, s, _, h => by simp at h
  | 0, _ :: g, q, 0, s, n, _ => absurd rfl n
  | 0, _ :: g, q, j + 1, s, _, h => List.all_eq_true.mp q s (List.mem_of_getElem? (by simpa using h))
  | i + 1, u :: g, q, 0, s, _, h => by
    unfold quietB at q
    rw [Bool.and_eq_true] at q
    have : u = s := by simpa using h
    rw [← this]
    exact q.1
  | i + 1, u :: g, q, j + 1, s, n, h => by
    unfold quietB at q
    rw [Bool.and_eq_true] at q
    exact quietB_ok q.2 j s (fun z => n (by rw [z])) (by simpa using h)
end Fw
namespace Fw
open PySem L2
def basic : D → Bool
  | .pt _ _ _ => false
  | .obj _ _ => false
  | _ => true
def isTy (T : String) : D → Bool
  | .int _ => T == "int"
  | .bl _ => T == "bool" || T == "int"
  | .str _ => T == "str"
  | .tup _ => T == "tuple"
  | .lst _ => T == "list"
  | _ => false
section
variable {K : PySem.W.Frag} {S : Sg} {d : D}
theorem kit_int (h : basic d = true) : PySem.W.kitOne K (tyD S d) (.type "int") = some (isTy "int" d) := by
  cases d <;> first | rfl | cases h
theorem kit_bool (h : basic d = true) : PySem.W.kitOne K (tyD S d) (.type "bool") = some (isTy "bool" d) := by
  cases d <;> first | rfl | cases h
theorem kit_str (h : basic d = true) : PySem.W.kitOne K (tyD S d) (.type "str") = some (isTy "str" d) := by
  cases d <;> first | rfl | cases h
theorem kit_tuple (h : basic d = true) : PySem.W.kitOne K (tyD S d) (.type "tuple") = some (isTy "tuple" d) := by
  cases d <;> first | rfl | cases h
theorem kit_list (h : basic d = true) : PySem.W.kitOne K (tyD S d) (.type "list") = some (isTy "list" d) := by
  cases d <;> first | rfl | cases h
end
end Fw

set_option Elab.async false
set_option linter.all false
set_option maxRecDepth 100000
set_option maxHeartbeats 4000000
namespace Fw
open PySem L2
/-- == of points, by their own def -/
structure PtEq (W : Wd) (S : Sg) (k : Nat) (R : List D → Out → Prop) : Prop where
  ex : ∃ q, FnM W S k q 2 [] R ∧ PySem.W.findIn W.K (.ref S.cP) "__eq__" = some (some (.ref q)) ∧ PySem.W.isFn W.K (.ref q) = true
  nP : PySem.W.notFirst W.K S.cP (.ref S.cP) = true
  nT : PySem.W.notFirst W.K S.cP (.type "tuple") = true
section
variable {X : Cx} {W : Wd} {S : Sg} {k j : Nat} {d : D} {l : List D} {R : List D → Out → Prop} {a b c x y v : Int}
theorem c_ptEq (C : Cc X W S k) (F : PtEq W S j R) (hR : R [.pt a b c, .pt x y v] (.ok d)) (hj : j ≤ k) : BinD X S (compareOp .Eq) (.pt a b c) (.pt x y v) d := by
  obtain ⟨q, F1, h1, h2⟩ := F.ex
  exact c_own C F1 rfl h1 h2 F.nP hR hj
theorem c_ptEqT (C : Cc X W S k) (F : PtEq W S j R) (hR : R [.pt a b c, .tup l] (.ok d)) (hj : j ≤ k) : BinD X S (compareOp .Eq) (.pt a b c) (.tup l) d := by
  obtain ⟨q, F1, h1, h2⟩ := F.ex
  exact c_own C F1 rfl h1 h2 F.nT hR hj
end
/-! ### a law's promise -/
def RLaw (ds : List D) (o : Out) : Prop := ∃ ns : List Int, ns.length ≤ 63 ∧ ds = [.lst (ns.map D.int)] ∧ o = .ok (.bl true)
def spLaw (K : PySem.W.Frag) : Sp := fun vs H Q _ => ∃ (a : Addr) (ns : List Int), vs = [.ref a] ∧ ns.length ≤ 63 ∧ SqL K H a (ns.map V.int) ∧ ∀ H', Q (.bl true) H'
theorem law_imp {S : Sg} {vs : List V} {H : Hp} {Q : VK} {E : XK} (h : spLaw S.K vs H Q E) : spOf S 1 RLaw vs H Q E := by
  obtain ⟨a, ns, rfl, hl, hq, K⟩ := h
  have e : hid [] H = H := by funext b; unfold hid; rw [if_neg (fun z => nomatch z)]
  refine ⟨rfl, [], _, _, (fun b z => nomatch z), .cons (.lst (by rw [e]; exact hq) (Reps.of_ints ns)) .nil, ⟨ns, hl, rfl, rfl⟩, fun v H' _ r => ?_⟩
  cases r
  exact K H'
/-- defaults -/
theorem fd_mk {K : PySem.W.Frag} {x qual : Str} {st : Stmt} {f : Addr} {oc : Value} {od an : Option Addr} {osl : Array (Option Value)} {kV doc pm cdv ct : Value} (l : K.lookup f = some ⟨oc, od, .func (PySem.W.fnOf x qual (defArgs st) (defBody st) (defScope st) .none kV doc pm an cdv ct), osl⟩)
    (c : PySem.W.codeIn K cdv qual = true) (k : PySem.W.keepIn K (.ref f) = true) : Fd K x qual st [] f (PySem.W.fnOf x qual (defArgs st) (defBody st) (defScope st) .none kV doc pm an cdv ct) := ⟨⟨oc, od, .none, kV, doc, pm, an, cdv, ct, osl, rfl, l, c, .inl ⟨rfl, rfl⟩, .inl rfl⟩, k⟩
theorem fd_mkD {K : PySem.W.Frag} {x qual : Str} {st : Stmt} {f T : Addr} {oc tc : Value} {od an td : Option Addr} {osl tsl : Array (Option Value)} {kV doc pm cdv ct : Value} {its : List Value} {tn : Nat} {dvs : List V}
    (l : K.lookup f = some ⟨oc, od, .func (PySem.W.fnOf x qual (defArgs st) (defBody st) (defScope st) (.ref T) kV doc pm an cdv ct), osl⟩) (lT : K.lookup T = some ⟨tc, td, .seq its.toArray tn, tsl⟩) (hv : Vals dvs its) (hd : dvs ≠ [])
    (c : PySem.W.codeIn K cdv qual = true) (k : PySem.W.keepIn K (.ref f) = true) : Fd K x qual st dvs f (PySem.W.fnOf x qual (defArgs st) (defBody st) (defScope st) (.ref T) kV doc pm an cdv ct) := ⟨⟨oc, od, .ref T, kV, doc, pm, an, cdv, ct, osl, rfl, l, c, .inr ⟨hd, T, _, its, tn, rfl, lT, rfl, hv⟩, .inl rfl⟩, k⟩
end Fw
namespace Fw
open PySem L2
section
variable {K : PySem.W.Frag} {C E : Addr} {T : String} {b : Bool} {t : Value}
theorem kitC_of (h2 : PySem.W.isClsIn K C = true) (h3 : PySem.W.typeIn K (.ref C) = some (.type "type")) (h4 : PySem.W.subIn K t (.ref C) = some b) : PySem.W.kitCls K t (.ref C) = some b := by
  have h2' : (PySem.W.clsIn K C).isSome = true := h2
  unfold PySem.W.kitCls
  dsimp only
  rw [h2', h3]
  exact h4
theorem kitC_self : PySem.W.kitOne K (.ref C) (.ref C) = some true := if_pos (beq_self_eq_true _)
theorem kitC_ty (h : PySem.W.kitCls K (.type T) (.ref C) = some b) : PySem.W.kitOne K (.type T) (.ref C) = some b := by
  unfold PySem.W.kitOne
  have n : ¬ (Value.type T == Value.ref C) = true := fun z => by
    have := beq_iff_eq.mp z
    cases this
  rw [if_neg n, h]
theorem kitC_sub (h : PySem.W.kitCls K (.ref E) (.ref C) = some true) : PySem.W.kitOne K (.ref E) (.ref C) = some true := by
  unfold PySem.W.kitOne
  split
  · rfl
  · exact h
theorem kitC_blt (hm : PySem.W.kitMeta T = true) (h : PySem.W.subIn K (.ref E) (.type T) = some b) : PySem.W.kitOne K (.ref E) (.type T) = some b := by
  unfold PySem.W.kitOne
  have n : ¬ (Value.ref E == Value.type T) = true := fun z => by
    have := beq_iff_eq.mp z
    cases this
  rw [if_neg n]
  unfold PySem.W.kitCls
  dsimp only
  rw [if_pos hm, h]
theorem exmC_of (h1 : PySem.W.subIn K (.ref C) (.type "BaseException") = some true) (h : PySem.W.kitCls K (.ref E) (.ref C) = some b) : PySem.W.exmOne K (.ref E) (.ref C) = some b := by
  unfold PySem.W.exmOne
  rw [h1]
  exact h
end
/-- the law's own call: nothing leaves it -/
theorem cx_none {P : Program} {w : World} (H : Hp) (s : Shared) (e : Value) (s' : Shared) (h : L2N.CX P w [] H s (fun _ _ _ => False) e s') : False := by
  obtain ⟨_, _, _, _, _, _, _, _, _, _, _, _, z⟩ := h
  exact z
end Fw

set_option Elab.async false
set_option linter.all false
set_option maxRecDepth 100000
set_option maxHeartbeats 4000000
namespace PySem.W
open PySem PySem.Calls PyProof.Rows Builtin
theorem fw_intmul (a : Int) (t : Tok) (l : Addr) (C dx : Addr) (sl : Array (Option Value)) :
    Meets (Builtin.«int.__mul__» ⟨[.int a t, .ref l], []⟩) (fun _ R s => s.heap.get? l = some { instObj C dx with slots := sl } ∧ R (.ok (.ret Value.notImplemented)) s) :=
  .of_wp fun prog w A R s h => by
    obtain ⟨hp, g, d, tk, os⟩ := s
    obtain ⟨hl, h⟩ := h
    unfold instObj at hl
    wp_walk using wpAny_loadPart' hl
    exact ⟨_, rfl, h⟩
section
variable {prog : Program} {w : World} {A : Around} {E : Value → Shared → Prop} {s : Shared} {K : Frag} {x C dx L f fm : Addr} {h₀ : Heap} {m : Str → Option Value} {sl : Array (Option Value)} {od : Option Obj}
theorem fw_rmul {n : Int} {t : Tok} {Q : Value → Shared → Prop} (F : Fr h₀ L s.heap m) (X₀ : K.In h₀) (I : InstAt s.heap x { instObj C dx with slots := sl } C od) (hc : selfFirst K C = true) (hm : findIn K (.ref C) (PySem.dunder "mul") = some (some (.ref fm)))
    (hs : findIn K (.ref C) (dunderR "mul") = some (some (.ref f))) (hf : isFn K (.ref f) = true) (hsub : subIn K (.ref C) (.type "int") = some false)
    (h : wpAny (model prog w) A (call (.ref f) [.ref x, .int n t]) (CmpBack Q) E s) : wpAny (model prog w) A (binaryOp .Mult (.int n t) (.ref x)) Q E s := by
  have X := X₀.keeps F.keep
  obtain ⟨cd, rest, hcd, hmr⟩ := ksp_first hc
  have one := ksp_try X I hs hf h
  have hobj : s.heap.get? x = some { instObj C dx with slots := sl } := I.1
  have T1 : s.TypeIs (.int n t) "int" := typeIs_int s n t
  have dec : wpAny (model prog w) A (tryMethod (.int n t) (PySem.dunder "mul") (.ref x)) (fun r s' => r = none ∧ s' = s) E s :=
    wpAny_tryMethod_declines T1 PySem.F.slot_int_mul (call_meets PySem.F.slot_int_mul T1 PySem.F.entry_int_mul (PySem.F.args_int_mul_2 _ _) (fw_intmul n t x C dx sl) ⟨hobj, rfl, rfl, rfl⟩)
  obtain ⟨hh, g, d, tt, os⟩ := s
  have L1 : Looks (model prog w) hh (typeOf (.int n t)) (.type "int") := Looks.of_pure rfl
  have L2 : Looks (model prog w) hh (typeOf (.ref x)) (.ref C) := I.type
  have L3 : Looks (model prog w) hh (fillsNumberSlot (.type "int") "mul") true := Looks.of_pure PySem.F.fills_int_mul
  have L4 : Looks (model prog w) hh (fillsNumberSlot (.ref C) "mul") true := fills_K X hcd hmr hm
  have L5 : Looks (model prog w) hh (isSubtype (.ref C) (.type "int")) false := looks_subIn X hsub
  have L7 : Looks (model prog w) hh (numberSlotInPython (.type "int") "mul") false := Looks.of_pure rfl
  have hne : (Value.type "int" == Value.ref C) = false := Bool.eq_false_iff.mpr fun q => by cases beq_iff_eq.mp q
  have hi : Operator.Mult.info.2 = "mul" := rfl
  unfold binaryOp
  refine wpAny_holding (wpAny_bind ?_)
  show wpAny _ _ (binaryOp1 "mul" (.int n t) (.ref x)) _ _ _
  unfold binaryOp1
  refine wpAny_bind (L1.at (wpAny_bind (L2.at (wpAny_bind (L3.at ?_)))))
  simp only [hne, Bool.false_eq_true, if_false]
  refine wpAny_bind (L4.at ?_)
  simp only [Bool.and_self, if_true]
  refine wpAny_bind (L5.at ?_)
  simp only [Bool.false_eq_true, if_false, Bool.not_false, Bool.and_true, Bool.and_self, if_true, pure_bind]
  refine wpAny_bind (L7.at ?_)
  simp only [Bool.false_eq_true, if_false, pure_bind]
  refine wpAny_bind (wpAny_mono dec (fun r s' z => ?_) fun _ _ e => e)
  obtain ⟨rfl, rfl⟩ := z
  dsimp only
  refine wpAny_bind (wpAny_mono one (fun r s' z => ?_) fun _ _ e => e)
  obtain ⟨v, rfl, hq⟩ := z
  dsimp only
  exact wpAny_bind (wpAny_rule (wpAny_pure (wpAny_pure hq)))
theorem fw_abs {Q : Value → Shared → Prop} (F : Fr h₀ L s.heap m) (X₀ : K.In h₀) {ox : Obj} (I : InstAt s.heap x ox C od) (hs : findIn K (.ref C) "__abs__" = some (some (.ref f))) (hf : isFn K (.ref f) = true)
    (h : wpAny (model prog w) A.in1 (call (.ref f) [.ref x]) Q E s) : wpAny (model prog w) A (call (.builtin "abs") [.ref x]) Q E s := by
  refine call_function_entry PyProof.Rows.kind_abs PyProof.Rows.plain_abs PyProof.Rows.entry_abs (PyProof.Rows.args_abs _) ?_
  unfold Builtin.«abs»
  refine wpAny_bind (m := oneArg "abs" _) (wpAny_pure ?_)
  refine wpAny_bind (m := callSpecial? (.ref x) (Str.ofString "__abs__")) (special_fn (X₀.keeps F.keep) I hs (beq_iff_eq.mp hf) (wpAny_mono h (fun v s' z => ?_) fun _ _ z => z))
  exact wpAny_pure ⟨v, rfl, z⟩
end
end PySem.W
namespace Fw
open PySem L2
/-! ### own operators -/
def BinQ (X : Cx) (S : Sg) (U : WX) (f : Value → Value → Sem Value) (da db : D) (o : Out) : Prop := ∀ (pins : List (Addr × Obj)) (s : Shared) (σ : L2.St) (H : Hp) (x y : V) (v u : Value) (Q : VK), L2.Inv X pins σ H s → RelV x v → RelV y u →
  (∃ M, (∀ a ∈ M, H a ≠ none) ∧ Reps S (hid M H) [x, y] [da, db] ∧ OutK S H M Q (fun c d H' => U c d σ H') o) → wpAny (model X.prog X.w) X.A (f v u) (EP X pins σ Q) X.xe s
def UnQ (X : Cx) (S : Sg) (U : WX) (f : Value → Sem Value) (da : D) (o : Out) : Prop := ∀ (pins : List (Addr × Obj)) (s : Shared) (σ : L2.St) (H : Hp) (x : V) (v : Value) (Q : VK), L2.Inv X pins σ H s → RelV x v →
  (∃ M, (∀ a ∈ M, H a ≠ none) ∧ Reps S (hid M H) [x] [da] ∧ OutK S H M Q (fun c d H' => U c d σ H') o) → wpAny (model X.prog X.w) X.A (f v) (EP X pins σ Q) X.xe s
section
variable {X : Cx} {W : Wd} {S : Sg} {U : WX} {k j : Nat} {g : En} {e a b : Expr} {es : List Expr} {d da db : D} {ds dd : List D} {m : Str} {n : Nat} {pos apos : Pos} {q A : Addr} {R : List D → Out → Prop} {o : Out} {z : Int}
theorem outk_mono {H H' : Hp} {M : List Addr} {Q : VK} {E : XK} (e : Same H H') (h : OutK S H M Q E o) : OutK S H' M Q E o := by
  cases o with
  | ok d => exact fun v H2 e2 r => h v H2 (e.trans e2) r
  | err c fs => exact fun dx ws H2 e2 hn hd r => h dx ws H2 (e.trans e2) (e.free hn) hd r
theorem BinQ.toD {f : Value → Value → Sem Value} (h : BinQ X S U f da db (.ok d)) : BinD X S f da db d := fun pins s σ H x y v u Q I rx ry q => h pins s σ H x y v u Q I rx ry q
theorem UnQ.toD {f : Value → Sem Value} (h : UnQ X S U f da (.ok d)) : UnD X S f da d := fun pins s σ H x v Q I rx q => h pins s σ H x v Q I rx q
theorem q_bin {op : Operator} (ha : Fw.XE X S g a da) (hb : Fw.XE X S g b db) (ho : BinQ X S U (binaryOp op) da db o) : XQ X S U g (.BinOp a op b pos) o := by
  refine ⟨fun pins s σ H Q I w => ?_⟩
  obtain ⟨B, M, st, kk⟩ := w
  refine wpAny_BinOp (binT (R := fun x y H2 => ∃ M, (∀ a ∈ M, H2 a ≠ none) ∧ Reps S (hid M H2) [x, y] [da, db] ∧ OutK S H2 M Q (fun c d H' => U c d σ H') o) ha hb I ?_ fun v u s2 x y H2 I2 rx ry w => ho pins s2 σ H2 x y v u Q I2 rx ry w)
  exact ⟨B, M, st, fun x H1 e1 r1 => ⟨B, M, st.mono e1, fun y H2 e2 r2 => ⟨M, (st.mono (e1.trans e2)).trk, .cons (r1.mono (hid_same e2)) (.cons r2 .nil), outk_mono (e1.trans e2) kk⟩⟩⟩
theorem inst_sl {pins : List (Addr × Obj)} {σ : L2.St} {H : Hp} {s : Shared} {M : List Addr} {v : V} (I : L2.Inv X pins σ H s) (r : Rep S (hid M H) v d) (h : clD S d = some A) : ∃ a dx sl od, v = .ref a ∧ PySem.W.InstAt s.heap a { PySem.W.instObj A dx with slots := sl } A (some od) := by
  cases r with
  | pt hs hx hy ho =>
    cases h
    obtain ⟨sl, od, _, J, _⟩ := SlX.slt_inst I (slt_mono hid_le hs)
    exact ⟨_, _, sl, od, rfl, J⟩
  | obj hs r =>
    cases h
    obtain ⟨mA, O, _⟩ := ins_get I.hok (hid_some hs).2
    obtain ⟨od, J, _⟩ := O.look
    exact ⟨_, _, #[], od, rfl, J⟩
  | _ => cases h
theorem back_mono {pins : List (Addr × Obj)} {σ : L2.St} {Q : VK} {w : Value} {s' : Shared} (z : EP X pins σ Q w s') : PySem.W.CmpBack (EP X pins σ Q) w s' := by
  obtain ⟨v, H', I', rz, qz⟩ := z
  exact SlX.cmpback rz ⟨v, H', I', rz, qz⟩
/-- what a class says of an operator's def -/
structure OwnOp (W : Wd) (S : Sg) (A : Addr) (nm : Str) (k n : Nat) (R : List D → Out → Prop) : Prop where
  ex : ∃ q, FnM W S k q n [] R ∧ PySem.W.findIn W.K (.ref A) nm = some (some (.ref q)) ∧ PySem.W.isFn W.K (.ref q) = true
/-- two of one class -/
theorem b_own {op : Operator} (C : Cc X W S k) (tk : L2N.Takes X U) (F : OwnOp W S A (PySem.dunder op.info.2) j 2 R) (ha : clD S da = some A) (hb : tyD S db = .ref A) (hc : PySem.W.selfFirst W.K A = true) (hR : R [da, db] o) (hj : j ≤ k) : BinQ X S U (binaryOp op) da db o := by
  obtain ⟨q, F1, hs, hf⟩ := F.ex
  rintro pins s σ H x y v u Q I rx ry ⟨M, tr, r, kk⟩
  obtain ⟨x', y', e, q1, q2⟩ := r.two
  cases e
  obtain ⟨a, ox, od, rfl, J⟩ := inst_at I q1 ha
  cases rx
  obtain ⟨m, hF⟩ := I.fr
  rw [← C.kw] at hs hf hc
  have ht := typ_at C.toKb I q2 ry
  rw [hb] at ht
  refine PySem.W.binop_K hF I.ok.mod.kin J ht hc hs hf ?_
  exact wpAny_mono (run_MQ (vs := [.ref a, y]) (us := [.ref a, u]) C tk F1 hj I (.cons rfl (.cons ry .nil)) tr (.cons q1 (.cons q2 .nil)) rfl hR kk) (fun w s' z => back_mono z) fun _ _ x => x
/-- with an int on the right -/
theorem b_ownI {op : Operator} {fo ro rc : Option Value} (C : Cc X W S k) (tk : L2N.Takes X U) (F : OwnOp W S A (PySem.dunder op.info.2) j 2 R) (ha : clD S da = some A) (hc : PySem.W.selfFirst W.K A = true) (hr : PySem.W.findIn W.K (.ref A) (dunderR op.info.2) = some rc) (hp : rc = none ∨ ∃ g : Addr, rc = some (.ref g))
    (h1 : PySem.W.findIn W.K (.type "int") (PySem.dunder op.info.2) = some fo) (h2 : PySem.W.findIn W.K (.type "int") (dunderR op.info.2) = some ro) (hsub : PySem.W.subIn W.K (.type "int") (.ref A) = some false) (hR : R [da, .int z] o) (hj : j ≤ k) : BinQ X S U (binaryOp op) da (.int z) o := by
  obtain ⟨q, F1, hs, hf⟩ := F.ex
  rintro pins s σ H x y v u Q I rx ry ⟨M, tr, r, kk⟩
  obtain ⟨x', y', e, q1, q2⟩ := r.two
  cases e
  obtain ⟨a, ox, od, rfl, J⟩ := inst_at I q1 ha
  cases rx
  cases q2
  have ry' := ry
  obtain ⟨t, rfl⟩ := ry'
  obtain ⟨m, hF⟩ := I.fr
  rw [← C.kw] at hs hf hc hr h1 h2 hsub
  refine PySem.W.ksp_binT hF I.ok.mod.kin J (b := .int z t) (T := "int") rfl hc hs hf hr hp h1 h2 hsub ?_
  exact wpAny_mono (run_MQ (vs := [.ref a, .int z]) (us := [.ref a, .int z t]) C tk F1 hj I (.cons rfl (.cons ry .nil)) tr (.cons q1 (.cons (.int z) .nil)) rfl hR kk) (fun w s' z => back_mono z) fun _ _ x => x
/-- int * own -/
theorem b_rmul (C : Cc X W S k) (tk : L2N.Takes X U) (F : OwnOp W S A (dunderR "mul") j 2 R) (hb : clD S db = some A) (hc : PySem.W.selfFirst W.K A = true) {fm : Addr} (hm : PySem.W.findIn W.K (.ref A) (PySem.dunder "mul") = some (some (.ref fm))) (hsub : PySem.W.subIn W.K (.ref A) (.type "int") = some false)
    (hR : R [db, .int z] o) (hj : j ≤ k) : BinQ X S U (binaryOp .Mult) (.int z) db o := by
  obtain ⟨q, F1, hs, hf⟩ := F.ex
  rintro pins s σ H x y v u Q I rx ry ⟨M, tr, r, kk⟩
  obtain ⟨x', y', e, q1, q2⟩ := r.two
  cases e
  cases q1
  have rx' := rx
  obtain ⟨t, rfl⟩ := rx'
  obtain ⟨a, dx, sl, od, rfl, J⟩ := inst_sl I q2 hb
  cases ry
  obtain ⟨m, hF⟩ := I.fr
  rw [← C.kw] at hs hf hc hm hsub
  refine PySem.W.fw_rmul hF I.ok.mod.kin J hc hm hs hf hsub ?_
  exact wpAny_mono (run_MQ (vs := [.ref a, .int z]) (us := [.ref a, .int z t]) C tk F1 hj I (.cons rfl (.cons rx .nil)) tr (.cons q2 (.cons (.int z) .nil)) rfl hR kk) (fun w s' z => back_mono z) fun _ _ x => x
theorem u_own (C : Cc X W S k) (tk : L2N.Takes X U) (F : OwnOp W S A "__neg__" j 1 R) (ha : clD S da = some A) (hR : R [da] o) (hj : j ≤ k) : UnQ X S U (unaryOp .USub) da o := by
  obtain ⟨q, F1, hs, hf⟩ := F.ex
  rintro pins s σ H x v Q I rx ⟨M, tr, r, kk⟩
  obtain ⟨x', e, q1⟩ := r.one
  cases e
  obtain ⟨a, ox, od, rfl, J⟩ := inst_at I q1 ha
  cases rx
  obtain ⟨m, hF⟩ := I.fr
  rw [← C.kw] at hs hf
  refine PySem.W.ksp_neg hF I.ok.mod.kin J hs hf ?_
  exact run_MQ (vs := [.ref a]) (us := [.ref a]) C tk F1 hj I (.cons rfl .nil) tr (.cons q1 .nil) rfl hR kk
/-- abs(own) -/
theorem k_absO (C : Cc X W S k) (F : OwnOp W S A "__abs__" j 1 R) (ha : clD S da = some A) (hR : R [da] (.ok d)) (hj : j + 1 ≤ k) : CallD X S (.builtin "abs") [da] d := by
  obtain ⟨q, F1, hs, hf⟩ := F.ex
  have F' := F1.fnr
  rintro pins s σ H xs us Q I r ⟨M, tr, rr, kk⟩
  obtain ⟨x', e, q1⟩ := rr.one
  cases e
  obtain ⟨a, ox, od, rfl, J⟩ := inst_at I q1 ha
  obtain ⟨u, rfl, ru⟩ := r.one
  cases ru
  obtain ⟨m, hF⟩ := I.fr
  have hr := C.room
  obtain ⟨⟨w1, w2, c3, c4⟩, c1, c2⟩ := C
  subst w1
  refine PySem.W.fw_abs hF I.ok.mod.kin J hs hf (wpAny_call (SlX.run_at (us := [.ref a]) (ws := [.ref a]) F' ((hr.mono hj).in1) I.env0.in1 passN I (.cons rfl .nil) ⟨M, _, _, rfl, tr, .cons q1 .nil, hR, kk⟩))
/-- p.m(), p a point -/
theorem e_ptm0 {px py po : Int} {pl : Sem Bool} (C : Cc X W S k) (T : PtC W S) (hm : ∃ q, Meth W.K S.cP m q ∧ FnM W S j q 1 [] R) (he : Fw.XE X S g e (.pt px py po)) (hR : R [.pt px py po] (.ok d)) (hj : j ≤ k)
    (ht : eval (.Call (.Attribute e m apos) [] [] pos) X.env = (do
      let ov ← eval e X.env
      standAt apos.atName
      let (f, first) ← holding [ov] (getMethod ov m pl)
      callWith pos f first (backTo pos (starEach [] X.env)) (backToKw pos (keywordEach [] X.env))) := by rfl) : Fw.XE X S g (.Call (.Attribute e m apos) [] [] pos) d := by
  obtain ⟨q, hq, F⟩ := hm
  have F' := F.fnr
  obtain ⟨⟨w1, w2, c3, c4⟩, c1, c2⟩ := C
  subst w1
  refine peI (SlX.pe_methSl0 (E := E0) he T.scls hq F' (c2.mono hj) passN ht) fun σ H Q ⟨B, M, st, kk⟩ => ⟨B, M, st, fun v H1 e1 r => ?_⟩
  cases r with
  | pt h hx hy ho =>
    exact ⟨_, _, _, rfl, slt_mono hid_le h, M, _, _, rfl, (st.mono e1).trk, .cons (.pt h hx hy ho) .nil, hR, fun v H2 e2 r2 => kk v H2 (e1.trans e2) r2⟩
end
end Fw

set_option Elab.async false
set_option linter.all false
set_option maxRecDepth 100000
set_option maxHeartbeats 4000000
namespace Fw
open PySem L2 PySem.Spec PyProof.Rows
section
variable {X : Cx} {W : Wd} {S : Sg} {i j : Int} {n m : Nat}
/-- // by any wide number that is not 0 -/
theorem op_fdivA : OpR X (binaryOp .FloorDiv) (rI (fun _ j => j ≠ 0 ∧ j.natAbs.log2 < 9000) fun i j => .int (i.fdiv j)) := opI fun _ _ _ _ _ _ _ hc q => floordiv_int hc.1 q (.inl (PyProof.noPylong_of_log2 hc.2))
theorem b_fdivN [y : Bd j m] (h0 : j ≠ 0) (h : m < 9000) : BinD X S (binaryOp .FloorDiv) (.int i) (.int j) (.int (i.fdiv j)) := binII op_fdivA (fun H Q q => ⟨i, j, rfl, rfl, ⟨h0, by have := log_bd y; omega⟩, q⟩) fun H => .int _
theorem fdiv_flip : i.fdiv j = (-i).fdiv (-j) := by rw [Int.neg_fdiv_neg]
theorem natAbs_fdiv_le : (i.fdiv j).natAbs ≤ i.natAbs := by
  rcases Int.le_total 0 j with h | h
  · rw [Int.fdiv_eq_ediv_of_nonneg _ h]; exact Int.natAbs_ediv_le_natAbs i j
  · rw [fdiv_flip, Int.fdiv_eq_ediv_of_nonneg _ (by omega)]
    have := Int.natAbs_ediv_le_natAbs (-i) (-j)
    rwa [Int.natAbs_neg] at this
instance bd_fdiv [x : Bd i n] : Bd (i.fdiv j) n := ⟨Nat.lt_of_le_of_lt natAbs_fdiv_le x.h⟩
/-- one step of the divisor's way, the signs alike -/
theorem step_abs (hj : j ≠ 0) (h : 0 ≤ i * j) : i.natAbs = (i.fdiv j).natAbs * j.natAbs + (i - i.fdiv j * j).natAbs ∧ 0 ≤ j * (i - i.fdiv j * j) := by
  have key : ∀ {i j : Int}, 0 < j → 0 ≤ i → i.natAbs = (i.fdiv j).natAbs * j.natAbs + (i - i.fdiv j * j).natAbs ∧ 0 ≤ j * (i - i.fdiv j * j) := fun {i j} hj hi => by
    rw [Int.fdiv_eq_ediv_of_nonneg _ (by omega)]
    have e := Int.mul_ediv_add_emod i j
    have r0 := Int.emod_nonneg i (show j ≠ 0 by omega)
    have q0 := Int.ediv_nonneg hi (show 0 ≤ j by omega)
    have em : i - i / j * j = i % j := by rw [Int.mul_comm]; omega
    rw [em]
    refine ⟨?_, Int.mul_nonneg (by omega) r0⟩
    have h1 : ((i / j).natAbs * j.natAbs : Nat) = (i / j * j).natAbs := (Int.natAbs_mul _ _).symm
    rw [h1]
    have h2 : 0 ≤ i / j * j := Int.mul_nonneg q0 (by omega)
    rw [Int.mul_comm] at h2 ⊢
    omega
  rcases Int.lt_or_gt_of_ne hj with z | z
  · have hi : 0 ≤ -i := by
      rcases Int.lt_or_le 0 i with q | q
      · have := Int.mul_neg_of_pos_of_neg q z
        omega
      · omega
    have := key (i := -i) (j := -j) (by omega) hi
    rw [← fdiv_flip, Int.natAbs_neg, Int.natAbs_neg] at this
    have e : -i - i.fdiv j * -j = -(i - i.fdiv j * j) := by rw [Int.mul_neg]; omega
    rw [e, Int.natAbs_neg, Int.neg_mul_neg] at this
    exact this
  · have hi : 0 ≤ i := by
      rcases Int.lt_or_le i 0 with q | q
      · have := Int.mul_neg_of_neg_of_pos q z
        omega
      · omega
    exact key z hi
end
end Fw

set_option exponentiation.threshold 9000
namespace Ev
open PySem L2 Fw
def topS (i : Nat) : Stmt := PySem.Challenge.pw_evenpen_k05_whole_one_cell_of_each_value.main.body.getD i (.Pass ⟨0, 0, 0, 0⟩)
/-- the built-in names -/
structure Mb (W : Wd) : Prop where
  abs : W.mg "abs" = none
  int : W.mg "int" = none
  len : W.mg "len" = none
  range : W.mg "range" = none
  isinstance : W.mg "isinstance" = none
  bool : W.mg "bool" = none
  str : W.mg "str" = none
  tuple : W.mg "tuple" = none
  list : W.mg "list" = none
  max : W.mg "max" = none
  min : W.mg "min" = none
  enumerate : W.mg "enumerate" = none
  sorted : W.mg "sorted" = none
  set : W.mg "set" = none
  sum : W.mg "sum" = none
  all : W.mg "all" = none
  any : W.mg "any" = none
  zip : W.mg "zip" = none
  iter : W.mg "iter" = none
  next : W.mg "next" = none
  valueerror : W.mg "ValueError" = none
local macro_rules | `(tactic| walk_at "kb") => `(tactic| first
  | assumption
  | exact Fw.Cc.toKb (by assumption)
  | exact Fw.Hc.toKb (by assumption))
local macro_rules | `(tactic| walk_at "mu") => `(tactic| first
  | assumption
  | exact Fw.cmul (by decide +kernel))
local macro_rules | `(tactic| walk_at "dv") => `(tactic| first
  | assumption
  | exact Fw.cdiv (by first | assumption | decide | omega) (by decide +kernel))
local macro_rules | `(tactic| walk_at "hu") => `(tactic| first
  | exact Fw.Cc.hu (by assumption)
  | exact Fw.Hc.hu (by assumption))
local macro_rules | `(tactic| walk_at "bn") => `(tactic| first
  | with_reducible exact Fw.b_add
  | with_reducible exact Fw.b_sub
  | ((with_reducible refine' Fw.b_mul ?hx); (case hx => walk_at "mu"))
  | ((with_reducible refine' Fw.b_fdiv ?hx); (case hx => walk_at "dv"))
  | ((with_reducible refine' Fw.b_mod ?hx); (case hx => first | assumption | decide | omega))
  | ((with_reducible refine' Fw.b_pow ?hx); (case hx => exact ⟨by decide, by decide, by decide⟩)))
local macro_rules | `(tactic| walk_at "cm") => `(tactic| first
  | with_reducible exact Fw.c_lt
  | with_reducible exact Fw.c_le
  | with_reducible exact Fw.c_gt
  | with_reducible exact Fw.c_ge
  | with_reducible exact Fw.c_eq
  | with_reducible exact Fw.c_ne
  | with_reducible exact Fw.c_isN
  | with_reducible exact Fw.c_isnotN
  | with_reducible exact Fw.c_isB
  | with_reducible exact Fw.c_isnotB
  | with_reducible exact Fw.c_eqB
  | with_reducible exact Fw.c_neB
  | with_reducible exact Fw.c_eqS
  | with_reducible exact Fw.c_neS
  | ((with_reducible refine' Fw.c_eqD ?kx ?ux ?f1 ?f2 ?s1 ?s2); (case kx => walk_at "kb"); (case ux => walk_at "hu"); (case f1 => rfl); (case f2 => rfl); (case s1 => rfl); (case s2 => rfl))
  | ((with_reducible refine' Fw.c_neD ?kx ?ux ?f1 ?f2 ?s1 ?s2); (case kx => walk_at "kb"); (case ux => walk_at "hu"); (case f1 => rfl); (case f2 => rfl); (case s1 => rfl); (case s2 => rfl)))
local macro_rules | `(tactic| walk_at "cm") => `(tactic| first
  | (refine' Fw.c_ptEq (by assumption) (by with_reducible assumption) ?rx ?jx; (case jx => decide); (case rx => walk_at "cl"))
  | (refine' Fw.c_ptEqT (by assumption) (by with_reducible assumption) ?rx ?jx; (case jx => decide); (case rx => walk_at "cl")))
local macro_rules | `(tactic| walk_at "at") => `(tactic| first
  | assumption
  | rfl
  | exact Fw.atI_int (by first | assumption | decide | omega) (by first | assumption | omega))
local macro_rules | `(tactic| walk_at "ix") => `(tactic| first
  | ((with_reducible refine' Fw.x_lst ?kx ?hx); (case kx => walk_at "kb"); (case hx => walk_at "at"))
  | ((with_reducible refine' Fw.x_tup ?kx ?hx); (case kx => walk_at "kb"); (case hx => walk_at "at")))
local macro_rules | `(tactic| walk_at "ag") => `(tactic| first
  | with_reducible exact Fw.a_nil
  | ((with_reducible refine' Fw.a_cons ?hx ?tx ?sx); (case sx => rfl); (case hx => walk_at "ex"); (case tx => walk_at "ag")))
local macro_rules | `(tactic| walk_at "ex") => `(tactic| first
  | with_reducible exact Fw.e_int
  | with_reducible exact Fw.e_bl
  | with_reducible exact Fw.e_non
  | with_reducible exact Fw.e_str
  | ((with_reducible refine' Fw.e_var (by with_reducible assumption) ?vx); (case vx => rfl))
  | ((with_reducible refine' Fw.e_bin ?ax ?bx ?ox); (case ax => walk_at "ex"); (case bx => walk_at "ex"); (case ox => walk_at "bn"))
  | ((with_reducible refine' Fw.e_not ?ax); (case ax => walk_at "ex"))
  | ((with_reducible refine' Fw.e_un ?ax ?ox); (case ax => walk_at "ex"); (case ox => walk_at "un"))
  | ((with_reducible refine' Fw.e_cmp ?ax ?bx ?ox ?mx); (case mx => first | exact nomark _ | with_unfolding_all rfl); (case ax => walk_at "ex"); (case bx => walk_at "ex"); (case ox => walk_at "cm"))
  | ((with_reducible refine' Fw.e_chain ?ax ?bx ?cx ?ox ?px ?mx); (case mx => with_unfolding_all rfl); (case ax => walk_at "ex"); (case bx => walk_at "ex"); (case cx => walk_at "ex"); (case ox => walk_at "cm"); (case px => walk_at "cm"))
  | ((with_reducible refine' Fw.e_ix ?ax ?bx ?ox ?sx); (case sx => exact fun _ _ => rfl); (case ax => walk_at "ex"); (case bx => walk_at "ex"); (case ox => walk_at "ix"))
  | ((with_reducible refine' Fw.e_isiB (T := "int") (y := "int") ?bx ?ax ?ox (by with_reducible assumption) ?mx (by with_reducible assumption) ?yx PyProof.Rows.Boot.«int» ?kx ?nx ?hx); (case bx => walk_at "kb"); (case ax => walk_at "ex"); (case ox => exact True.intro); (case mx => exact Mb.isinstance (by assumption)); (case yx => exact Mb.int (by assumption)); (case kx => exact Fw.kit_int rfl); (case nx => decide); (case hx => rfl))
  | ((with_reducible refine' Fw.e_isiB (T := "str") (y := "str") ?bx ?ax ?ox (by with_reducible assumption) ?mx (by with_reducible assumption) ?yx PyProof.Rows.Boot.«str» ?kx ?nx ?hx); (case bx => walk_at "kb"); (case ax => walk_at "ex"); (case ox => exact True.intro); (case mx => exact Mb.isinstance (by assumption)); (case yx => exact Mb.str (by assumption)); (case kx => exact Fw.kit_str rfl); (case nx => decide); (case hx => rfl))
  | ((with_reducible refine' Fw.e_isiB (T := "bool") (y := "bool") ?bx ?ax ?ox (by with_reducible assumption) ?mx (by with_reducible assumption) ?yx PyProof.Rows.Boot.«bool» ?kx ?nx ?hx); (case bx => walk_at "kb"); (case ax => walk_at "ex"); (case ox => exact True.intro); (case mx => exact Mb.isinstance (by assumption)); (case yx => exact Mb.bool (by assumption)); (case kx => exact Fw.kit_bool rfl); (case nx => decide); (case hx => rfl))
  | ((with_reducible refine' Fw.e_isiB (T := "tuple") (y := "tuple") ?bx ?ax ?ox (by with_reducible assumption) ?mx (by with_reducible assumption) ?yx PyProof.Rows.Boot.«tuple» ?kx ?nx ?hx); (case bx => walk_at "kb"); (case ax => walk_at "ex"); (case ox => exact True.intro); (case mx => exact Mb.isinstance (by assumption)); (case yx => exact Mb.tuple (by assumption)); (case kx => exact Fw.kit_tuple rfl); (case nx => decide); (case hx => rfl))
  | ((with_reducible refine' Fw.e_isiB (T := "list") (y := "list") ?bx ?ax ?ox (by with_reducible assumption) ?mx (by with_reducible assumption) ?yx PyProof.Rows.Boot.«list» ?kx ?nx ?hx); (case bx => walk_at "kb"); (case ax => walk_at "ex"); (case ox => exact True.intro); (case mx => exact Mb.isinstance (by assumption)); (case yx => exact Mb.list (by assumption)); (case kx => exact Fw.kit_list rfl); (case nx => decide); (case hx => rfl))
  | ((with_reducible refine' Fw.e_isi (y := "Point") ?bx ?ax ?ox (by with_reducible assumption) ?mx (by with_reducible assumption) ?yx ?kx ?hx); (case bx => walk_at "kb"); (case ax => walk_at "ex"); (case ox => exact ⟨Fw.PtC.scls (by assumption), Fw.PtC.isi (by assumption)⟩); (case mx => exact Mb.isinstance (by assumption)); (case yx => exact Fw.PtC.gC (by assumption)); (case kx => exact Fw.kitC_self); (case hx => rfl))
  | ((with_reducible refine' Fw.e_callB (x := "abs") (id := "abs") Fw.k_abs (by with_reducible assumption) (by with_reducible assumption) PyProof.Rows.Boot.«abs» ?ax ?nx ?ex ?px); (case nx => decide); (case ex => rfl); (case px => rfl); (case ax => walk_at "ag"))
  | ((with_reducible refine' Fw.e_callT (x := "int") (T := "int") Fw.k_int (by with_reducible assumption) (by with_reducible assumption) PyProof.Rows.Boot.«int» ?ax ?nx ?ex ?px); (case nx => decide); (case ex => rfl); (case px => rfl); (case ax => walk_at "ag"))
  | ((with_reducible refine' Fw.e_callB (x := "len") (id := "len") (Fw.k_lenL (by walk_at "kb")) (by with_reducible assumption) (by with_reducible assumption) PyProof.Rows.Boot.«len» ?ax ?nx ?ex ?px); (case nx => decide); (case ex => rfl); (case px => rfl); (case ax => walk_at "ag"))
  | ((with_reducible refine' Fw.e_callB (x := "len") (id := "len") (Fw.k_lenT (by walk_at "kb")) (by with_reducible assumption) (by with_reducible assumption) PyProof.Rows.Boot.«len» ?ax ?nx ?ex ?px); (case nx => decide); (case ex => rfl); (case px => rfl); (case ax => walk_at "ag"))
  | ((with_reducible refine' Fw.e_callB (x := "max") (id := "max") (Fw.k_max2 (by assumption)) (by with_reducible assumption) (by with_reducible assumption) PyProof.Rows.Boot.«max» ?ax ?nx ?ex ?px); (case nx => decide); (case ex => rfl); (case px => rfl); (case ax => walk_at "ag"))
  | ((with_reducible refine' Fw.e_callB (x := "min") (id := "min") (Fw.k_min2 (by assumption)) (by with_reducible assumption) (by with_reducible assumption) PyProof.Rows.Boot.«min» ?ax ?nx ?ex ?px); (case nx => decide); (case ex => rfl); (case px => rfl); (case ax => walk_at "ag"))
  | ((with_reducible refine' Fw.e_tup ?ax ?lx); (case ax => walk_at "ag"); (case lx => exact Nat.le_of_ble_eq_true rfl))
  | ((with_reducible refine' Fw.n_e (Fw.n_lst ?ax ?lx)); (case ax => walk_at "ag"); (case lx => exact Nat.le_of_ble_eq_true rfl))
  | ((with_reducible refine' Fw.e_call (by with_reducible assumption) (by with_reducible assumption) (by with_reducible assumption) ?ax ?rx ?nx ?jx ?ex ?px); (case ex => rfl); (case px => rfl); (case jx => decide); (case ax => walk_at "ag"); (case nx => rfl); (case rx => walk_at "cl"))
  | ((with_reducible refine' Fw.e_pt (by assumption) (show Fw.PtI _ _ _ 3 _ _ by assumption) (by with_reducible assumption) ?ax ?dx ?rx ?ox ?jx ?ex ?px); (case ex => rfl); (case px => rfl); (case jx => decide); (case ax => walk_at "ag"); (case dx => rfl); (case rx => walk_at "pt"); (case ox => rfl))
  | ((with_reducible refine' Fw.e_pt (by assumption) (show Fw.PtI _ _ _ 2 _ _ by assumption) (by with_reducible assumption) ?ax ?dx ?rx ?ox ?jx ?ex ?px); (case ex => rfl); (case px => rfl); (case jx => decide); (case ax => walk_at "ag"); (case dx => rfl); (case rx => walk_at "pt"); (case ox => rfl))
  | ((with_reducible refine' Fw.e_prop (by assumption) (by assumption) (by with_reducible assumption) ?ax ?rx ?jx ?hx); (case jx => decide); (case hx => rfl); (case ax => walk_at "ex"); (case rx => walk_at "cl"))
  | ((with_reducible refine' Fw.e_px ?kx ?tx ?ax ?bx); (case kx => walk_at "kb"); (case tx => assumption); (case bx => rfl); (case ax => walk_at "ex"))
  | ((with_reducible refine' Fw.e_py ?kx ?tx ?ax ?bx); (case kx => walk_at "kb"); (case tx => assumption); (case bx => rfl); (case ax => walk_at "ex"))
  | ((with_reducible refine' Fw.e_po ?kx ?tx ?ax ?bx); (case kx => walk_at "kb"); (case tx => assumption); (case bx => rfl); (case ax => walk_at "ex"))
  | ((with_reducible refine' Fw.e_and ?ax (fun hb => ?bx)); (case ax => walk_at "ex"); (case bx => (try simp only [decide_eq_true_eq, decide_eq_false_iff_not, Bool.not_eq_true', Bool.not_eq_false'] at hb); walk_at "ex"))
  | ((with_reducible refine' Fw.e_or ?ax (fun hb => ?bx)); (case ax => walk_at "ex"); (case bx => (try simp only [decide_eq_true_eq, decide_eq_false_iff_not, Bool.not_eq_true', Bool.not_eq_false'] at hb); walk_at "ex"))
  | ((with_reducible refine' Fw.e_one ?ax); (case ax => walk_at "ex")))
local macro_rules | `(tactic| walk_at "un") => `(tactic| with_reducible exact Fw.u_neg)
local macro_rules | `(tactic| walk_at "ws") => `(tactic| first
  | ((with_reducible refine' Fw.w_and1 ?ax); (case ax => walk_at "tx"))
  | ((with_reducible refine' Fw.w_or1 ?ax); (case ax => walk_at "tx"))
  | ((with_reducible refine' Fw.w_and ?ax (fun hb => ?bx)); (case ax => walk_at "tx"); (case bx => (try simp only [decide_eq_true_eq, decide_eq_false_iff_not, Bool.not_eq_true', Bool.not_eq_false'] at hb); walk_at "ws"))
  | ((with_reducible refine' Fw.w_or ?ax (fun hb => ?bx)); (case ax => walk_at "tx"); (case bx => (try simp only [decide_eq_true_eq, decide_eq_false_iff_not, Bool.not_eq_true', Bool.not_eq_false'] at hb); walk_at "ws")))
local macro_rules | `(tactic| walk_at "tx") => `(tactic| first
  | ((with_reducible refine' Fw.t_cmp ?ax ?bx ?ox ?mx); (case mx => first | exact nomark _ | with_unfolding_all rfl); (case ax => walk_at "ex"); (case bx => walk_at "ex"); (case ox => walk_at "cm"))
  | ((with_reducible refine' Fw.t_chain ?ax ?bx ?cx ?ox ?px ?mx); (case mx => with_unfolding_all rfl); (case ax => walk_at "ex"); (case bx => walk_at "ex"); (case cx => walk_at "ex"); (case ox => walk_at "cm"); (case px => walk_at "cm"))
  | ((with_reducible refine' Fw.t_not ?ax); (case ax => walk_at "tx"))
  | ((with_reducible refine' Fw.t_w ?ax); (case ax => walk_at "ws"))
  | ((with_reducible refine' Fw.t_val ?ax ?hx); (case hx => exact fun _ => rfl); (case ax => walk_at "ex"))
  | ((with_reducible refine' Fw.t_tru ?kx ?ax ?dx ?hx); (case kx => walk_at "kb"); (case hx => exact fun _ => rfl); (case ax => walk_at "ex"); (case dx => rfl)))
local macro_rules | `(tactic| walk_at "asg") => `(tactic| (refine' Fw.s_cons (Fw.s_asg (by walk_at "kb") (by with_reducible assumption) ?xx ?kx); (case xx => walk_at "ex"); (try dsimp only [List.set_cons_succ, List.set_cons_zero])))
local macro_rules | `(tactic| walk_at "ret") => `(tactic| (refine' Fw.s_cons (Fw.s_ret ?xx ?kx); (case xx => walk_at "ex")))
local macro_rules | `(tactic| walk_at "rs") => `(tactic| (refine' Fw.s_cons (Fw.s_raise (by assumption) (Fw.InB.tk (by assumption)) (by with_reducible assumption) (by with_reducible assumption) ?ax ?hx ?nx ?kx ?lx); (case ax => walk_at "ag"); (case nx => rfl); (case kx => decide); (case lx => exact Nat.le_of_ble_eq_true rfl); (case hx => first | exact ⟨rfl, rfl⟩ | assumption)))
local macro_rules | `(tactic| walk_at "bz") => `(tactic| first
  | rfl
  | assumption
  | exact decide_eq_true (by first | assumption | omega)
  | exact decide_eq_false (by first | assumption | omega)
  | (simp; done))
local macro_rules | `(tactic| walk_at "tz") => `(tactic| (refine' Fw.XT.is ?tx ?zx; (case tx => walk_at "tx"); (case zx => walk_at "bz")))
local macro_rules | `(tactic| walk_at "ifT") => `(tactic| (refine' Fw.s_cons (Fw.s_if (b := true) ?tx (fun _ => ?kx) (fun z => nomatch z)); (case tx => walk_at "tz")))
local macro_rules | `(tactic| walk_at "ifF") => `(tactic| (refine' Fw.s_cons (Fw.s_if (b := false) ?tx (fun z => nomatch z) (fun _ => Fw.s_nil ?kx)); (case tx => walk_at "tz")))
local macro_rules | `(tactic| walk_at "ifE") => `(tactic| (refine' Fw.s_cons (Fw.s_if (b := false) ?tx (fun z => nomatch z) (fun _ => ?kx)); (case tx => walk_at "tz")))
local macro_rules | `(tactic| walk_at "sm") => `(tactic| first
  | rfl
  | assumption
  | (simp; done))

abbrev s_common_divisor : Stmt := topS 8
theorem s_common_divisor_sc : FnScope ["one", "two"] ["one", "two"] (defScope s_common_divisor) := ⟨rfl, rfl, rfl, by decide +kernel, rfl, by decide +kernel, by decide +kernel⟩
theorem fmod_lt (p q : Int) (h : q ≠ 0) : (p.fmod q).natAbs < q.natAbs := by
  have e := @Int.fmod_eq_emod p q
  have a1 := Int.emod_nonneg p h
  have a2 := Int.emod_lt p h
  by_cases hq : 0 ≤ q ∨ q ∣ p
  · rw [if_pos hq] at e
    rw [e]
    omega
  · rw [if_neg hq] at e
    have hz : p % q ≠ 0 := fun z => hq (.inr (Int.dvd_of_emod_eq_zero z))
    have hn : q < 0 := by
      rcases Int.lt_or_le q 0 with z | z
      · exact z
      · exact absurd (.inl z) hq
    rw [e]
    omega
theorem gcd_fmod (p q : Int) : Int.gcd q (p.fmod q) = Int.gcd p q := by
  rw [Int.fmod_def, Int.gcd_comm p q]
  have := Int.gcd_sub_mul_left_right q p (p.fdiv q)
  rw [this]
def RGcd (ds : List D) (o : Out) : Prop := ∃ a b : Int, ds = [.int a, .int b] ∧ o = .ok (.int (Int.gcd a b : Int))
theorem gcd_r {a b : Int} : RGcd ([.int a, .int b] ++ []) (.ok (.int (Int.gcd a b : Int))) := ⟨a, b, rfl, rfl⟩
local macro_rules | `(tactic| walk_at "cl") => `(tactic| exact gcd_r)
section
variable {W : Wd} {S : Sg}
theorem ok_gcd {f : Addr} {fd : FuncData} (F : Fd W.K "common_divisor" "common_divisor" s_common_divisor [] f fd) (hK : W.K = S.K) (T : Mb W) : FnOk W.P W.w W.K W.mg W.base (L2N.CX W.P W.w) 1 f fd ["one", "two"] (spOf S 2 RGcd) := by
  refine def_ok F hK s_common_divisor_sc (fun ds o h => by obtain ⟨a, b, rfl, _⟩ := h; rfl) fun X U ds o b h => ?_
  obtain ⟨p, q, rfl, rfl⟩ := h
  have C := b.C
  obtain ⟨n_one, l_one⟩ := b.nm 0 "one" rfl (.inl rfl) (by decide) (by decide)
  obtain ⟨n_two, l_two⟩ := b.nm 1 "two" rfl (.inl rfl) (by decide) (by decide)
  have g_abs := b.ng "abs" rfl (by decide)
  have m_abs := b.mg T.abs
  refine s_mid (fun g => ∃ u v : Int, g = [.v (.int u), .v (.int v)] ∧ Int.gcd u v = Int.gcd p q ∧ v = 0) ?_ ?_
  · refine s_while C.toKb (fun m g => ∃ u v : Int, g = [.v (.int u), .v (.int v)] ∧ Int.gcd u v = Int.gcd p q ∧ m = v.natAbs) q.natAbs ⟨p, q, rfl, rfl, rfl⟩ ?_
    rintro m g ⟨u, v, rfl, h1, rfl⟩
    refine' ⟨_, ?tx, ?y, ?n⟩
    case tx => walk_at "tx"
    case n => exact fun hb => ⟨u, v, rfl, h1, by simpa using hb⟩
    case y =>
      intro hb
      have hv : v ≠ 0 := by simpa using hb
      refine' s_cons (s_par b l_one l_two ?x1 ?x2 ?k)
      case x1 => walk_at "ex"
      case x2 =>
        refine' Fw.e_bin ?ax ?bx (Fw.b_modN hv)
        case ax => walk_at "ex"
        case bx => walk_at "ex"
      case k => exact s_nil ⟨_, fmod_lt u v hv, _, _, rfl, by rw [gcd_fmod, h1], rfl⟩
  · rintro g ⟨u, v, rfl, h1, rfl⟩
    walk_at "ret"
    show D.int _ = D.int _
    have e : (Int.gcd p q : Int) = (u.natAbs : Int) := by rw [← h1]; simp
    rw [e]
    congr 1
    omega
end

abbrev s_reduced : Stmt := topS 9
theorem s_reduced_sc : FnScope ["n", "d", "shared"] ["n", "d"] (defScope s_reduced) := ⟨rfl, rfl, rfl, by decide +kernel, rfl, by decide +kernel, by decide +kernel⟩
/-- a fraction in lowest terms -/
def lowT (n d : Int) : D := .tup [.int (n / (Int.gcd n d : Int)), .int (d / (Int.gcd n d : Int))]
def RRed (ds : List D) (o : Out) : Prop := ∃ n d : Int, ds = [.int n, .int d] ∧ ((0 < d ∧ Bd d 8000 ∧ o = .ok (lowT n d)) ∨ (d < 1 ∧ o = .err 1 [("over", .int d)]))
theorem red_r {n d : Int} {m : Nat} [y : Bd d m] (h : 0 < d) (hm : m ≤ 8000) : RRed ([.int n, .int d] ++ []) (.ok (lowT n d)) := ⟨n, d, rfl, .inl ⟨h, ⟨y.up hm⟩, rfl⟩⟩
theorem gcd_pos {n d : Int} (h : 0 < d) : 0 < (Int.gcd n d : Int) := by
  have : 0 < Int.gcd n d := Int.gcd_pos_of_ne_zero_right n (by omega)
  omega
theorem gcd_small {n d : Int} {m : Nat} (h : 0 < d) (y : Bd d m) : Bd (Int.gcd n d : Int) m := ⟨by
  have h1 := Int.le_of_dvd h (Int.gcd_dvd_right n d)
  have h2 := gcd_pos (n := n) h
  have := y.h
  omega⟩
local macro_rules | `(tactic| walk_at "cl") => `(tactic| exact red_r (by first | assumption | decide | omega) (by decide +kernel))
section
variable {W : Wd} {S : Sg}
theorem ok_red {f : Addr} {fd : FuncData} (F : Fd W.K "reduced" "reduced" s_reduced [] f fd) (hK : W.K = S.K) (T : Mb W) (f_gcd : Fn W S 1 "common_divisor" 2 [] RGcd) (E_over : ErrC W S 1 "BadOver" ["over"]) :
    FnOk W.P W.w W.K W.mg W.base (L2N.CX W.P W.w) 3 f fd ["n", "d"] (spOf S 2 RRed) := by
  refine def_ok F hK s_reduced_sc (fun ds o h => by obtain ⟨a, b, rfl, _⟩ := h; rfl) fun X U ds o b h => ?_
  obtain ⟨n, d, rfl, h⟩ := h
  have C := b.C
  obtain ⟨n_n, l_n⟩ := b.nm 0 "n" rfl (.inl rfl) (by decide) (by decide)
  obtain ⟨n_d, l_d⟩ := b.nm 1 "d" rfl (.inl rfl) (by decide) (by decide)
  obtain ⟨n_shared, l_shared⟩ := b.nm 2 "shared" rfl (.inl rfl) (by decide) (by decide)
  have g_BadOver := b.ng "BadOver" rfl (by decide)
  have g_common_divisor := b.ng "common_divisor" rfl (by decide)
  change XB _ _ _ [.v (.int n), .v (.int d), .no] _ _
  rcases h with ⟨h0, h1, rfl⟩ | ⟨h0, rfl⟩
  · have hz := decide_eq_false (by omega : ¬ d < 1)
    walk_at "ifF"
    walk_at "asg"
    have hg := gcd_pos (n := n) h0
    haveI := gcd_small (n := n) h0 h1
    walk_at "ret"
    rfl
  · have hz := decide_eq_true (h0 : d < 1)
    walk_at "ifT"
    walk_at "rs"
end

abbrev s_Point_init : Stmt := inClass (topS 11) 1
theorem s_Point_init_sc : FnScope ["self", "x", "y", "over", "shared"] ["self", "x", "y", "over"] (defScope s_Point_init) := ⟨rfl, rfl, rfl, by decide +kernel, rfl, by decide +kernel, by decide +kernel⟩
def normP (x y v : Int) : D := .pt (x / (Int.gcd (Int.gcd x y : Int) v : Int)) (y / (Int.gcd (Int.gcd x y : Int) v : Int)) (v / (Int.gcd (Int.gcd x y : Int) v : Int))
def RPt (x y v : Int) (o : Out) : Prop := (0 < v ∧ Bd v 8000 ∧ o = .ok (normP x y v)) ∨ (v < 1 ∧ o = .err 1 [("over", .int v)])
theorem pt_r {x y v : Int} {m : Nat} [b : Bd v m] (h : 0 < v) (hm : m ≤ 8000) : RPt x y v (.ok (normP x y v)) := .inl ⟨h, ⟨b.up hm⟩, rfl⟩
local macro_rules | `(tactic| walk_at "pt") => `(tactic| exact pt_r (by first | assumption | decide | omega) (by decide +kernel))
section
variable {W : Wd} {S : Sg}
theorem ok_pinit {dvs : List V} {f : Addr} {fd : FuncData} (F : Fd W.K "__init__" "Point.__init__" s_Point_init dvs f fd) (hK : W.K = S.K) (T : Mb W) (TP : PtC W S) (f_gcd : Fn W S 1 "common_divisor" 2 [] RGcd) (E_over : ErrC W S 1 "BadOver" ["over"]) :
    FnOk W.P W.w W.K W.mg W.base (L2N.CX W.P W.w) 3 f fd ["self", "x", "y", "over"] (spPt S RPt) := by
  refine pt_init F hK s_Point_init_sc rfl fun X U a dx p q v o b h => ?_
  have C := b.C
  obtain ⟨n_self, l_self⟩ := b.nm 0 "self" rfl (.inl rfl) (by decide) (by decide)
  obtain ⟨n_x, l_x⟩ := b.nm 1 "x" rfl (.inl rfl) (by decide) (by decide)
  obtain ⟨n_y, l_y⟩ := b.nm 2 "y" rfl (.inl rfl) (by decide) (by decide)
  obtain ⟨n_over, l_over⟩ := b.nm 3 "over" rfl (.inl rfl) (by decide) (by decide)
  obtain ⟨n_shared, l_shared⟩ := b.nm 4 "shared" rfl (.inl rfl) (by decide) (by decide)
  have g_BadOver := b.ng "BadOver" rfl (by decide)
  have g_common_divisor := b.ng "common_divisor" rfl (by decide)
  change XB _ _ _ [.pi a dx [], .v (.int p), .v (.int q), .v (.int v), .no] _ _
  rcases h with ⟨h0, h1, rfl⟩ | ⟨h0, rfl⟩
  · have hz := decide_eq_false (by omega : ¬ v < 1)
    walk_at "ifF"
    walk_at "asg"
    have hg := gcd_pos (n := (Int.gcd p q : Int)) h0
    haveI := gcd_small (n := (Int.gcd p q : Int)) h0 h1
    refine' s_cons (s_slt C.toKb TP n_self rfl ?x1 TP.sx (quietB_ok rfl) ?k1)
    case x1 => walk_at "ex"
    refine' s_cons (s_slt C.toKb TP n_self rfl ?x2 TP.sy (quietB_ok rfl) ?k2)
    case x2 => walk_at "ex"
    refine' s_cons (s_slt C.toKb TP n_self rfl ?x3 TP.so (quietB_ok rfl) ?k3)
    case x3 => walk_at "ex"
    refine s_nil ⟨_, rfl, ?_, ?_, ?_⟩
    · rw [SlX.putS_ne TP.xo, SlX.putS_ne TP.xy, SlX.putS_get]
    · rw [SlX.putS_ne TP.yo, SlX.putS_get]
    · rw [SlX.putS_get]
  · have hz := decide_eq_true (h0 : v < 1)
    walk_at "ifT"
    walk_at "rs"
end

abbrev s_check_slope : Stmt := topS 13
theorem s_check_slope_sc : FnScope ["slope", "a", "b"] ["slope"] (defScope s_check_slope) := ⟨rfl, rfl, rfl, by decide +kernel, rfl, by decide +kernel, by decide +kernel⟩
abbrev slopeT (a b : Int) : D := .tup [.int a, .int b]
def RChk (ds : List D) (o : Out) : Prop := ∃ a b : Int, ds = [slopeT a b] ∧ ((Int.gcd a b = 1 ∧ o = .ok .non) ∨ (Int.gcd a b ≠ 1 ∧ o = .err 2 [("b", .int b), ("a", .int a)]))
theorem chk_r {a b : Int} (h : Int.gcd a b = 1) : RChk ([slopeT a b] ++ []) (.ok .non) := ⟨a, b, rfl, .inl ⟨h, rfl⟩⟩
local macro_rules | `(tactic| walk_at "cl") => `(tactic| exact chk_r (by assumption))
local macro_rules | `(tactic| walk_at "sp2") => `(tactic| (refine' Fw.s_cons (Fw.s_asgT ?xx (Fw.g_tup (by assumption) (Fw.gs_cons (Fw.g_name (by walk_at "kb") (by with_reducible assumption)) (Fw.gs_cons (Fw.g_name (by walk_at "kb") (by with_reducible assumption)) Fw.gs_nil))) ?kx); (case xx => walk_at "ex"); (try dsimp only [List.set_cons_succ, List.set_cons_zero])))
section
variable {W : Wd} {S : Sg}
theorem ok_checkslope {f : Addr} {fd : FuncData} (F : Fd W.K "check_slope" "check_slope" s_check_slope [] f fd) (hK : W.K = S.K) (T : Mb W) (f_gcd : Fn W S 1 "common_divisor" 2 [] RGcd) (E_slope : ErrC W S 2 "BadSlope" ["a", "b"]) :
    FnOk W.P W.w W.K W.mg W.base (L2N.CX W.P W.w) 3 f fd ["slope"] (spOf S 1 RChk) := by
  refine def_ok F hK s_check_slope_sc (fun ds o h => by obtain ⟨a, b, rfl, _⟩ := h; rfl) fun X U ds o b h => ?_
  obtain ⟨x, y, rfl, h⟩ := h
  have C := b.C
  obtain ⟨n_slope, l_slope⟩ := b.nm 0 "slope" rfl (.inl rfl) (by decide) (by decide)
  obtain ⟨n_a, l_a⟩ := b.nm 1 "a" rfl (.inl rfl) (by decide) (by decide)
  obtain ⟨n_b, l_b⟩ := b.nm 2 "b" rfl (.inl rfl) (by decide) (by decide)
  have g_common_divisor := b.ng "common_divisor" rfl (by decide)
  have g_BadSlope := b.ng "BadSlope" rfl (by decide)
  change XB _ _ _ [.v (.tup [.int x, .int y]), .no, .no] _ _
  walk_at "sp2"
  rcases h with ⟨h, rfl⟩ | ⟨h, rfl⟩
  · have hz : (!decide ((Int.gcd x y : Int) = 1)) = false := by rw [h]; rfl
    walk_at "ifF"
    exact s_nil rfl
  · have hz : (!decide ((Int.gcd x y : Int) = 1)) = true := by
      have : ¬ (Int.gcd x y : Int) = 1 := by omega
      simp [this]
    walk_at "ifT"
    walk_at "rs"
end

abbrev s_value_at : Stmt := topS 14
theorem s_value_at_sc : FnScope ["slope", "point", "a", "b"] ["slope", "point"] (defScope s_value_at) := ⟨rfl, rfl, rfl, by decide +kernel, rfl, by decide +kernel, by decide +kernel⟩
def RVal (ds : List D) (o : Out) : Prop := ∃ a b x y v : Int, Int.gcd a b = 1 ∧ Bd a 1000 ∧ Bd b 1000 ∧ Bd x 1000 ∧ Bd y 1000 ∧ Bd v 1000 ∧ 0 < v ∧ ds = [slopeT a b, .pt x y v] ∧ o = .ok (lowT (a * y - b * x) v)
theorem val_r {a b x y v : Int} {n1 n2 n3 n4 n5 : Nat} [b1 : Bd a n1] [b2 : Bd b n2] [b3 : Bd x n3] [b4 : Bd y n4] [b5 : Bd v n5] (h : Int.gcd a b = 1) (hv : 0 < v) (h1 : n1 ≤ 1000 ∧ n2 ≤ 1000 ∧ n3 ≤ 1000 ∧ n4 ≤ 1000 ∧ n5 ≤ 1000) :
    RVal ([slopeT a b, .pt x y v] ++ []) (.ok (lowT (a * y - b * x) v)) := ⟨a, b, x, y, v, h, ⟨b1.up h1.1⟩, ⟨b2.up h1.2.1⟩, ⟨b3.up h1.2.2.1⟩, ⟨b4.up h1.2.2.2.1⟩, ⟨b5.up h1.2.2.2.2⟩, hv, rfl, rfl⟩
section
variable {W : Wd} {S : Sg}
theorem ok_valueat {f : Addr} {fd : FuncData} (F : Fd W.K "value_at" "value_at" s_value_at [] f fd) (hK : W.K = S.K) (T : Mb W) (TP : PtC W S) (f_checkslope : Fn W S 3 "check_slope" 1 [] RChk) (f_red : Fn W S 3 "reduced" 2 [] RRed) :
    FnOk W.P W.w W.K W.mg W.base (L2N.CX W.P W.w) 4 f fd ["slope", "point"] (spOf S 2 RVal) := by
  refine def_ok F hK s_value_at_sc (fun ds o h => by obtain ⟨a, b, c, d, e, _, _, _, _, _, _, _, rfl, _⟩ := h; rfl) fun X U ds o b h => ?_
  obtain ⟨a, b', x, y, v, h, _, _, _, _, _, hv, rfl, rfl⟩ := h
  have C := b.C
  obtain ⟨n_slope, l_slope⟩ := b.nm 0 "slope" rfl (.inl rfl) (by decide) (by decide)
  obtain ⟨n_point, l_point⟩ := b.nm 1 "point" rfl (.inl rfl) (by decide) (by decide)
  obtain ⟨n_a, l_a⟩ := b.nm 2 "a" rfl (.inl rfl) (by decide) (by decide)
  obtain ⟨n_b, l_b⟩ := b.nm 3 "b" rfl (.inl rfl) (by decide) (by decide)
  have g_check_slope := b.ng "check_slope" rfl (by decide)
  have g_reduced := b.ng "reduced" rfl (by decide)
  change XB _ _ _ [.v (slopeT a b'), .v (.pt x y v), .no, .no] _ _
  refine' s_cons (s_expr ?x1 ?k1)
  case x1 => walk_at "ex"
  walk_at "sp2"
  walk_at "ret"
  rfl
end
local macro_rules | `(tactic| walk_at "cl") => `(tactic| exact val_r (by assumption) (by first | assumption | omega) (by decide +kernel))

abbrev s_combination : Stmt := topS 15
theorem s_combination_sc : FnScope ["a", "b", "old", "new", "times"] ["a", "b"] (defScope s_combination) := ⟨rfl, rfl, rfl, by decide +kernel, rfl, by decide +kernel, by decide +kernel⟩
/-- the divisor's way with its factors -/
def combI (p q r : Int) (u v w : Int) : Int × Int :=
  if h : u = 0 then (if p < 0 then (-q, -r) else (q, r)) else combI u v w (p - p.fdiv u * u) (q - p.fdiv u * v) (r - p.fdiv u * w)
termination_by u.natAbs
decreasing_by
  have := fmod_lt p u h
  rw [Int.fmod_def] at this
  rw [Int.mul_comm]
  exact this
def combOf (a b : Int) : Int × Int := combI a 1 0 b 0 1
theorem combI_stop {p q r v w : Int} : combI p q r 0 v w = if p < 0 then (-q, -r) else (q, r) := by
  unfold combI
  rw [dif_pos rfl]
theorem combI_step {p q r u v w : Int} (h : u ≠ 0) : combI p q r u v w = combI u v w (p - p.fdiv u * u) (q - p.fdiv u * v) (r - p.fdiv u * w) := by
  rw [combI]
  rw [dif_neg h]
theorem combI_law {a b : Int} : ∀ (n : Nat) (p q r u v w : Int), u.natAbs ≤ n → a * q + b * r = p → a * v + b * w = u → a * (combI p q r u v w).1 + b * (combI p q r u v w).2 = (Int.gcd p u : Int)
  | n, p, q, r, u, v, w, hn, h1, h2 => by
    by_cases h : u = 0
    · subst h
      rw [combI_stop, Int.gcd_zero_right]
      split
      · have : a * -q + b * -r = -p := by rw [Int.mul_neg, Int.mul_neg, ← h1]; omega
        show a * -q + b * -r = _
        omega
      · show a * q + b * r = _
        omega
    · cases n with
      | zero => omega
      | succ n =>
        have hl := fmod_lt p u h
        have e : p - p.fdiv u * u = p.fmod u := by rw [Int.fmod_def, Int.mul_comm]
        rw [combI_step h, combI_law n u v w (p - p.fdiv u * u) (q - p.fdiv u * v) (r - p.fdiv u * w) (by rw [e]; omega) h2 (by grind), e, gcd_fmod]
/-- what the loop keeps: the numbers stay small -/
structure CI (B p q r u v w : Int) : Prop where
  p0 : (p.natAbs : Int) ≤ B
  u0 : (u.natAbs : Int) ≤ B
  q0 : (q.natAbs : Int) ≤ B
  r0 : (r.natAbs : Int) ≤ B
  v0 : (v.natAbs : Int) ≤ B
  w0 : (w.natAbs : Int) ≤ B
  st : (q = 1 ∧ r = 0 ∧ v = 0 ∧ w = 1 ∧ 3 * (p.natAbs : Int) ≤ B ∧ 3 * (u.natAbs : Int) ≤ B ∧ 3 ≤ B) ∨ (p ≠ 0 ∧ 0 ≤ p * u ∧ ((p.natAbs * v.natAbs + u.natAbs * q.natAbs : Nat) : Int) ≤ B ∧ ((p.natAbs * w.natAbs + u.natAbs * r.natAbs : Nat) : Int) ≤ B)
theorem half {x y : Nat} {B : Int} (h : ((x * y : Nat) : Int) ≤ B) (hx : x ≠ 0) : (y : Int) ≤ B := by
  have h0 : 1 ≤ x := Nat.one_le_iff_ne_zero.mpr hx
  have h1 : 1 * y ≤ x * y := Nat.mul_le_mul_right y h0
  omega
theorem part {P Q U V T R : Nat} {B : Int} (e : P = T * U + R) {q' : Nat} (hq : q' ≤ Q + T * V) (h : ((P * V + U * Q : Nat) : Int) ≤ B) : ((U * q' + R * V : Nat) : Int) ≤ B := by
  have h1 : U * q' ≤ U * (Q + T * V) := Nat.mul_le_mul_left U hq
  have h2 : U * (Q + T * V) + R * V = P * V + U * Q := by rw [e]; grind
  omega
theorem CI.next {B p q r u v w : Int} (c : CI B p q r u v w) (h : u ≠ 0) : CI B u v w (p - p.fdiv u * u) (q - p.fdiv u * v) (r - p.fdiv u * w) := by
  have hl := fmod_lt p u h
  have e : p - p.fdiv u * u = p.fmod u := by rw [Int.fmod_def, Int.mul_comm]
  rw [← e] at hl
  have u0 := c.u0
  have un : u.natAbs ≠ 0 := by omega
  have fin : ∀ {Q V X : Int}, X = Q - p.fdiv u * V → X.natAbs ≤ Q.natAbs + (p.fdiv u).natAbs * V.natAbs := fun {Q V X} ex => by
    rw [ex, ← Int.natAbs_mul]
    exact Int.natAbs_sub_le _ _
  rcases c.st with ⟨rfl, rfl, rfl, rfl, h1, h2, h3⟩ | ⟨hp, hs, h1, h2⟩
  · have tu : (p.fdiv u * u).natAbs ≤ p.natAbs + u.natAbs := by
      have e2 : p.fdiv u * u = p - (p - p.fdiv u * u) := by omega
      rw [e2]
      have := Int.natAbs_sub_le p (p - p.fdiv u * u)
      omega
    have tl := natAbs_fdiv_le (i := p) (j := u)
    have tm : (p.fdiv u).natAbs * u.natAbs = (p.fdiv u * u).natAbs := (Int.natAbs_mul _ _).symm
    have sg : 0 ≤ u * (p - p.fdiv u * u) := by
      rw [e]
      rcases Int.lt_or_gt_of_ne h with z | z
      · have e3 : p.fmod u = -((-p).fmod (-u)) := by rw [Int.neg_fmod_neg]; omega
        rw [e3, Int.fmod_eq_emod_of_nonneg _ (by omega), Int.mul_neg, ← Int.neg_mul]
        exact Int.mul_nonneg (by omega) (Int.emod_nonneg _ (by omega))
      · rw [Int.fmod_eq_emod_of_nonneg _ (by omega)]
        exact Int.mul_nonneg (by omega) (Int.emod_nonneg _ h)
    have z1 : 1 - p.fdiv u * 0 = 1 := by omega
    have z2 : (0 : Int) - p.fdiv u * 1 = -p.fdiv u := by omega
    rw [z1, z2]
    refine ⟨u0, by omega, by simp; omega, by simp; omega, by simp; omega, by rw [Int.natAbs_neg]; omega, .inr ⟨h, sg, ?_, ?_⟩⟩
    · show ((u.natAbs * 1 + (p - p.fdiv u * u).natAbs * 0 : Nat) : Int) ≤ B
      omega
    · show ((u.natAbs * (-p.fdiv u).natAbs + (p - p.fdiv u * u).natAbs * 1 : Nat) : Int) ≤ B
      rw [Int.natAbs_neg, Nat.mul_comm u.natAbs, tm]
      omega
  · obtain ⟨s1, s2⟩ := step_abs h hs
    have a1 := part s1 (fin (Q := q) (V := v) rfl) h1
    have a2 := part s1 (fin (Q := r) (V := w) rfl) h2
    have pn : p.natAbs ≠ 0 := by omega
    exact ⟨u0, by omega, c.v0, c.w0, half (x := u.natAbs) (by omega) un, half (x := u.natAbs) (by omega) un, .inr ⟨h, s2, a1, a2⟩⟩
theorem combI_bd {B : Int} : ∀ (n : Nat) (p q r u v w : Int), u.natAbs ≤ n → CI B p q r u v w → ((combI p q r u v w).1.natAbs : Int) ≤ B ∧ ((combI p q r u v w).2.natAbs : Int) ≤ B
  | n, p, q, r, u, v, w, hn, c => by
    by_cases h : u = 0
    · subst h
      rw [combI_stop]
      split
      · exact ⟨by rw [Int.natAbs_neg]; exact c.q0, by rw [Int.natAbs_neg]; exact c.r0⟩
      · exact ⟨c.q0, c.r0⟩
    · cases n with
      | zero => omega
      | succ n =>
        have hl := fmod_lt p u h
        have e : p - p.fdiv u * u = p.fmod u := by rw [Int.fmod_def, Int.mul_comm]
        rw [combI_step h]
        exact combI_bd n u v w _ _ _ (by rw [e]; omega) (c.next h)
def BB : Int := 2 ^ 1002
theorem CI.of {a b : Int} (h1 : Bd a 1000) (h2 : Bd b 1000) : CI BB a 1 0 b 0 1 := by
  have e1 := h1.h
  have e2 := h2.h
  have e : (2 : Nat) ^ 1000 * 4 = 2 ^ 1002 := by decide +kernel
  have e3 : BB = ((2 ^ 1002 : Nat) : Int) := by decide +kernel
  have e4 : 3 ≤ 2 ^ 1000 := by decide +kernel
  generalize (2 : Nat) ^ 1000 = z at *
  generalize (2 : Nat) ^ 1002 = y at *
  rw [e3]
  exact ⟨by omega, by omega, by simp; omega, by simp, by simp, by simp; omega, .inl ⟨rfl, rfl, rfl, rfl, by omega, by omega, by omega⟩⟩
theorem bd_BB {x : Int} (h : (x.natAbs : Int) ≤ BB) : Bd x 1003 := ⟨by
  have e3 : BB = ((2 ^ 1002 : Nat) : Int) := by decide +kernel
  have e4 : 2 ^ 1002 < 2 ^ 1003 := by decide +kernel
  rw [e3] at h
  generalize (2 : Nat) ^ 1002 = z at *
  generalize (2 : Nat) ^ 1003 = y at *
  omega⟩
theorem comb_bd {a b : Int} (h1 : Bd a 1000) (h2 : Bd b 1000) : Bd (combOf a b).1 1003 ∧ Bd (combOf a b).2 1003 := by
  have := combI_bd (B := BB) b.natAbs a 1 0 b 0 1 (Nat.le_refl _) (CI.of h1 h2)
  exact ⟨bd_BB this.1, bd_BB this.2⟩
theorem comb_law {a b : Int} : a * (combOf a b).1 + b * (combOf a b).2 = (Int.gcd a b : Int) := combI_law b.natAbs a 1 0 b 0 1 (Nat.le_refl _) (by omega) (by omega)
def RComb (ds : List D) (o : Out) : Prop := ∃ a b : Int, Bd a 1000 ∧ Bd b 1000 ∧ ds = [.int a, .int b] ∧ o = .ok (slopeT (combOf a b).1 (combOf a b).2)
theorem comb_r {a b : Int} {n1 n2 : Nat} [b1 : Bd a n1] [b2 : Bd b n2] (h1 : n1 ≤ 1000) (h2 : n2 ≤ 1000) : RComb ([.int a, .int b] ++ []) (.ok (slopeT (combOf a b).1 (combOf a b).2)) := ⟨a, b, ⟨b1.up h1⟩, ⟨b2.up h2⟩, rfl, rfl⟩
local macro_rules | `(tactic| walk_at "cl") => `(tactic| exact comb_r (by decide +kernel) (by decide +kernel))
section
variable {W : Wd} {S : Sg}
abbrev t3 (p q r : Int) : D := .tup [.int p, .int q, .int r]
theorem ok_comb {f : Addr} {fd : FuncData} (F : Fd W.K "combination" "combination" s_combination [] f fd) (hK : W.K = S.K) (T : Mb W) : FnOk W.P W.w W.K W.mg W.base (L2N.CX W.P W.w) 1 f fd ["a", "b"] (spOf S 2 RComb) := by
  refine def_ok F hK s_combination_sc (fun ds o h => by obtain ⟨a, b, _, _, rfl, _⟩ := h; rfl) fun X U ds o b h => ?_
  obtain ⟨a, b', h1, h2, rfl, rfl⟩ := h
  have C := b.C
  obtain ⟨n_a, l_a⟩ := b.nm 0 "a" rfl (.inl rfl) (by decide) (by decide)
  obtain ⟨n_b, l_b⟩ := b.nm 1 "b" rfl (.inl rfl) (by decide) (by decide)
  obtain ⟨n_old, l_old⟩ := b.nm 2 "old" rfl (.inl rfl) (by decide) (by decide)
  obtain ⟨n_new, l_new⟩ := b.nm 3 "new" rfl (.inl rfl) (by decide) (by decide)
  obtain ⟨n_times, l_times⟩ := b.nm 4 "times" rfl (.inl rfl) (by decide) (by decide)
  change XB _ _ _ [.v (.int a), .v (.int b'), .no, .no, .no] _ _
  refine' s_cons (s_par b l_old l_new ?x1 ?x2 ?k1)
  case x1 => walk_at "ex"
  case x2 => walk_at "ex"
  refine s_mid (fun g => ∃ (p q r v w : Int) (k : Sl), g = [.v (.int a), .v (.int b'), .v (t3 p q r), .v (t3 0 v w), k] ∧ combOf a b' = combI p q r 0 v w) ?_ ?_
  · refine s_while C.toKb (fun m g => ∃ (p q r u v w : Int) (k : Sl), g = [.v (.int a), .v (.int b'), .v (t3 p q r), .v (t3 u v w), k] ∧ combOf a b' = combI p q r u v w ∧ CI BB p q r u v w ∧ m = u.natAbs) b'.natAbs ⟨a, 1, 0, b', 0, 1, .no, rfl, rfl, CI.of h1 h2, rfl⟩ ?_
    rintro m g ⟨p, q, r, u, v, w, k, rfl, e1, ci, rfl⟩
    haveI := bd_BB ci.p0
    haveI := bd_BB ci.u0
    haveI := bd_BB ci.q0
    haveI := bd_BB ci.r0
    haveI := bd_BB ci.v0
    haveI := bd_BB ci.w0
    refine' ⟨_, ?tx, ?y, ?n⟩
    case tx => walk_at "tx"
    case n =>
      intro hb
      have hu : u = 0 := by simpa using hb
      subst hu
      exact ⟨p, q, r, v, w, k, rfl, e1⟩
    case y =>
      intro hb
      have hu : u ≠ 0 := by simpa using hb
      refine' s_cons (s_asg C.toKb l_times (e_bin ?y1 ?y2 (b_fdivN hu (by decide +kernel))) ?y3)
      case y1 => walk_at "ex"
      case y2 => walk_at "ex"
      dsimp only [List.set_cons_succ, List.set_cons_zero]
      refine' s_cons (s_par b l_old l_new ?z1 ?z2 ?k3)
      case z1 => walk_at "ex"
      case z2 => walk_at "ex"
      have hl := fmod_lt p u hu
      have e : p - p.fdiv u * u = p.fmod u := by rw [Int.fmod_def, Int.mul_comm]
      exact s_nil ⟨(p - p.fdiv u * u).natAbs, by rw [e]; exact hl, _, _, _, _, _, _, _, rfl, by rw [e1, combI_step hu], ci.next hu, rfl⟩
  · rintro g ⟨p, q, r, v, w, k, rfl, e1⟩
    rw [e1, combI_stop]
    by_cases hp : p < 0
    · walk_at "ifT"
      rw [if_pos hp]
      walk_at "ret"
      rfl
    · walk_at "ifF"
      rw [if_neg hp]
      walk_at "ret"
      rfl
end

abbrev s_law_nth : Stmt := topS 19
theorem s_law_nth_sc : FnScope ["_law_script", "_law_k"] ["_law_script", "_law_k"] (defScope s_law_nth) := ⟨rfl, rfl, rfl, by decide +kernel, rfl, by decide +kernel, by decide +kernel⟩
def RNth (ds : List D) (o : Out) : Prop := ∃ (ns : List Int) (k : Int), 0 ≤ k ∧ ds = [.lst (ns.map D.int), .int k] ∧ o = .ok (.int (ns.getD k.toNat 0))
theorem nth_r {ns : List Int} {k : Int} (h : 0 ≤ k) : RNth ([.lst (ns.map D.int), .int k] ++ []) (.ok (.int (ns.getD k.toNat 0))) := ⟨ns, k, h, rfl, rfl⟩
local macro_rules | `(tactic| walk_at "cl") => `(tactic| exact nth_r (by first | assumption | decide | omega))
section
variable {W : Wd} {S : Sg}
theorem ok_nth {f : Addr} {fd : FuncData} (F : Fd W.K "_law_nth" "_law_nth" s_law_nth [] f fd) (hK : W.K = S.K) (T : Mb W) :
    FnOk W.P W.w W.K W.mg W.base (L2N.CX W.P W.w) 1 f fd ["_law_script", "_law_k"] (spOf S 2 RNth) := by
  refine def_ok F hK s_law_nth_sc (fun ds o h => by obtain ⟨a, b, _, rfl, _⟩ := h; rfl) fun X U ds o b h => ?_
  obtain ⟨ns, k, h0, rfl, rfl⟩ := h
  have C := b.C
  obtain ⟨n__law_script, l__law_script⟩ := b.nm 0 "_law_script" rfl (.inl rfl) (by decide) (by decide)
  obtain ⟨n__law_k, l__law_k⟩ := b.nm 1 "_law_k" rfl (.inl rfl) (by decide) (by decide)
  have g_len := b.ng "len" rfl (by decide)
  have m_len := b.mg T.len
  change XB _ _ _ [.v (.lst (ns.map D.int)), .v (.int k)] _ _
  have hl : (ns.map D.int).length = ns.length := List.length_map ..
  by_cases h : k < ns.length
  · have hz := decide_eq_true (by rw [hl]; exact h : k < ((ns.map D.int).length : Int))
    walk_at "ifT"
    walk_at "ret"
    rfl
  · have hz := decide_eq_false (by rw [hl]; exact h : ¬ k < ((ns.map D.int).length : Int))
    walk_at "ifF"
    walk_at "ret"
    show D.int _ = D.int _
    rw [List.getD_eq_getElem?_getD, List.getElem?_eq_none (by omega)]
    rfl
end

abbrev s_law_draws : Stmt := topS 20
theorem s_law_draws_sc : FnScope ["_law_cell", "_law_count", "_law_rest", "_law_great", "_law_pool", "_law_k", "_law_mixed"] ["_law_cell", "_law_count"] (defScope s_law_draws) := ⟨rfl, rfl, rfl, by decide +kernel, rfl, by decide +kernel, by decide +kernel⟩
def dVal (k rest : Int) : Int := ((rest + 29 * k + 7) * (rest + 13 * k + 5) % 1009 * 37 + 11 * k + rest) % 997
def drawsL (great : Bool) (r : Int) : Nat → List Int × Int
  | 0 => ([], r)
  | n + 1 => let p := drawsL great r n
    if great then (p.1 ++ [p.2 % 1000], p.2 / 1000) else (p.1 ++ [dVal (0 + (n : Int)) p.2], p.2)
def absI (c : Int) : Int := if c < 0 then -c else c
def drawsOf (cell : Int) (n : Nat) : List Int := (drawsL (decide ((10 : Int) ^ (18 : Int).toNat ≤ absI cell)) (absI cell) n).1
theorem drawsL_len {great : Bool} {r : Int} : ∀ n, (drawsL great r n).1.length = n
  | 0 => rfl
  | n + 1 => by
    have := drawsL_len (great := great) (r := r) n
    unfold drawsL
    cases great <;> simp [this]
theorem drawsL_in {great : Bool} {r : Int} : ∀ n, ∀ x ∈ (drawsL great r n).1, 0 ≤ x ∧ x < 1000
  | 0, x, h => by cases h
  | n + 1, x, h => by
    have ih := drawsL_in (great := great) (r := r) n
    unfold drawsL at h
    cases great with
    | true =>
      rcases List.mem_append.mp h with h | h
      · exact ih x h
      · rw [List.mem_singleton.mp h]
        omega
    | false =>
      rcases List.mem_append.mp h with h | h
      · exact ih x h
      · rw [List.mem_singleton.mp h]
        unfold dVal
        omega
theorem drawsL_false {r : Int} : ∀ n, (drawsL false r n).2 = r
  | 0 => rfl
  | n + 1 => drawsL_false n
theorem drawsOf_len {c : Int} {n : Nat} : (drawsOf c n).length = n := drawsL_len n
theorem drawsOf_in {c : Int} {n : Nat} : ∀ x ∈ drawsOf c n, 0 ≤ x ∧ x < 1000 := drawsL_in n
def RDraws (ds : List D) (o : Out) : Prop := ∃ cell count : Int, 0 ≤ count ∧ count ≤ 1000 ∧ ds = [.int cell, .int count] ∧ o = .ok (.lst ((drawsOf cell count.toNat).map D.int))
theorem draws_r {cell count : Int} (h0 : 0 ≤ count) (h1 : count ≤ 1000) : RDraws ([.int cell, .int count] ++ []) (.ok (.lst ((drawsOf cell count.toNat).map D.int))) := ⟨cell, count, h0, h1, rfl, rfl⟩
local macro_rules | `(tactic| walk_at "cl") => `(tactic| exact draws_r (by decide) (by decide))
section
variable {W : Wd} {S : Sg}
theorem ok_draws {f : Addr} {fd : FuncData} (F : Fd W.K "_law_draws" "_law_draws" s_law_draws [] f fd) (hK : W.K = S.K) (T : Mb W) :
    FnOk W.P W.w W.K W.mg W.base (L2N.CX W.P W.w) 1 f fd ["_law_cell", "_law_count"] (spOf S 2 RDraws) := by
  refine def_ok F hK s_law_draws_sc (fun ds o h => by obtain ⟨a, b, _, _, rfl, _⟩ := h; rfl) fun X U ds o b h => ?_
  obtain ⟨cell, count, h0, h1, rfl, rfl⟩ := h
  have C := b.C
  obtain ⟨n__law_cell, l__law_cell⟩ := b.nm 0 "_law_cell" rfl (.inl rfl) (by decide) (by decide)
  obtain ⟨n__law_count, l__law_count⟩ := b.nm 1 "_law_count" rfl (.inl rfl) (by decide) (by decide)
  obtain ⟨n__law_rest, l__law_rest⟩ := b.nm 2 "_law_rest" rfl (.inl rfl) (by decide) (by decide)
  obtain ⟨n__law_great, l__law_great⟩ := b.nm 3 "_law_great" rfl (.inl rfl) (by decide) (by decide)
  obtain ⟨n__law_pool, l__law_pool⟩ := b.nm 4 "_law_pool" rfl (.inl rfl) (by decide) (by decide)
  obtain ⟨n__law_k, l__law_k⟩ := b.nm 5 "_law_k" rfl (.inl rfl) (by decide) (by decide)
  obtain ⟨n__law_mixed, l__law_mixed⟩ := b.nm 6 "_law_mixed" rfl (.inl rfl) (by decide) (by decide)
  have g_abs := b.ng "abs" rfl (by decide)
  have m_abs := b.mg T.abs
  have g_range := b.ng "range" rfl (by decide)
  have m_range := b.mg T.range
  have g_int := b.ng "int" rfl (by decide)
  have m_int := b.mg T.int
  change XB _ _ _ [.v (.int cell), .v (.int count), .no, .no, .no, .no, .no] _ _
  walk_at "asg"
  walk_at "asg"
  refine' s_cons (s_asgN C.toKb l__law_pool (n_lst a_nil) ?k)
  change XB X S U [.v (.int cell), .v (.int count), .v (.int (absI cell)), .v (.bl (decide ((10 : Int) ^ (18 : Int).toNat ≤ absI cell))), .own [], .no, .no] _ _
  generalize hr : absI cell = r
  generalize hg : decide ((10 : Int) ^ (18 : Int).toNat ≤ r) = gr
  have hres : (drawsL gr r count.toNat).1 = drawsOf cell count.toNat := by unfold drawsOf; rw [hr, hg]
  refine s_mid (fun g => ∃ k m : Sl, g = [.v (.int cell), .v (.int count), .v (.int (drawsL gr r count.toNat).2), .v (.bl gr), .own ((drawsL gr r count.toNat).1.map D.int), k, m]) ?_ ?_
  · refine' s_for C (n := count.toNat) (it := fun i => .int (0 + i)) (i_range1 g_range m_range (a_cons (e_var n__law_count rfl) a_nil) ⟨by omega, by omega⟩)
      (fun i g => ∃ k m : Sl, g = [.v (.int cell), .v (.int count), .v (.int (drawsL gr r i).2), .v (.bl gr), .own ((drawsL gr r i).1.map D.int), k, m]) ⟨.no, .no, rfl⟩ ?_ (fun g h => h)
    rintro i g hi ⟨k, m, rfl⟩
    refine ⟨_, g_name C.toKb l__law_k, ?_⟩
    have hlen : ((drawsL gr r i).1.map D.int).length < 100000 := by rw [List.length_map, drawsL_len]; omega
    haveI hbi : Bd (i : Int) 10 := ⟨by rw [Int.natAbs_natCast]; omega⟩
    dsimp only [List.set_cons_succ, List.set_cons_zero]
    cases gr with
    | true =>
      walk_at "ifT"
      refine' s_cons (s_app C.toKb n__law_pool rfl ?x1 hlen ?k1)
      case x1 => walk_at "ex"
      walk_at "asg"
      refine s_nil (s_nil ⟨.v (.int (0 + (i : Int))), m, ?_⟩)
      simp [drawsL]
    | false =>
      have hr2 : (drawsL false r i).2 = r := drawsL_false i
      haveI hbr : Bd r 60 := ⟨by
        have h2 := of_decide_eq_false hg
        have h3 : ¬ (1000000000000000000 : Int) ≤ r := h2
        have h4 : 0 ≤ r := by rw [← hr]; unfold absI; split <;> omega
        omega⟩
      rw [hr2]
      walk_at "ifE"
      walk_at "asg"
      refine' s_cons (s_app C.toKb n__law_pool rfl ?x2 hlen ?k2)
      case x2 => walk_at "ex"
      refine s_nil (s_nil ⟨.v (.int (0 + (i : Int))), .v (.int ((r + 29 * (0 + (i : Int)) + 7) * (r + 13 * (0 + (i : Int)) + 5) % 1009)), ?_⟩)
      simp [drawsL, dVal, hr2]
  · rintro g ⟨k, m, rfl⟩
    refine s_cons (s_retOwn n__law_pool rfl ?_)
    rw [hres]
    rfl
end

abbrev s_law_same : Stmt := topS 21
theorem s_law_same_sc : FnScope ["_law_actual", "_law_due", "_law_kinds", "_law_k"] ["_law_actual", "_law_due"] (defScope s_law_same) := ⟨rfl, rfl, rfl, by decide +kernel, rfl, by decide +kernel, by decide +kernel⟩
mutual
def plain : D → Bool
  | .pt _ _ _ => false
  | .obj _ _ => false
  | .tup xs => Nat.ble xs.length 100000 && plains xs
  | .lst xs => Nat.ble xs.length 100000 && plains xs
  | _ => true
def plains : List D → Bool
  | [] => true
  | d :: ds => plain d && plains ds
end
/-- the same plain datum twice -/
def RSame (n : Nat) (ds : List D) (o : Out) : Prop := ∃ d, ds = [d, d] ∧ plain d = true ∧ deep d ≤ n ∧ o = .ok (.bl true)
theorem same_r {n : Nat} {d e : D} (h : d = e) (f : plain d = true) (hn : deep d ≤ n) : RSame n ([d, e] ++ []) (.ok (.bl true)) := ⟨d, by rw [h]; rfl, f, hn, rfl⟩
theorem plains_mem : ∀ {l : List D} {d : D}, plains l = true → d ∈ l → plain d = true
  | a :: l, d, h, m => by
    unfold plains at h
    rw [Bool.and_eq_true] at h
    rcases List.mem_cons.mp m with e | e
    · rw [e]; exact h.1
    · exact plains_mem h.2 e
theorem deeps_mem : ∀ {l : List D} {d : D}, d ∈ l → deep d ≤ deep.deeps l
  | a :: l, d, m => by
    unfold deep.deeps
    rcases List.mem_cons.mp m with e | e
    · rw [e]; exact Nat.le_max_left _ _
    · exact Nat.le_trans (deeps_mem e) (Nat.le_max_right _ _)
theorem itOf_at {l : List D} {i : Nat} (h : i < l.length) : atI l (0 + (i : Int)) = some (itOf l i) := by
  rw [Int.zero_add]
  exact Fw.atI_nat (itOf_get h)
section
variable {W : Wd} {S : Sg}
theorem same_body {X : Cx} {U : WX} {n : Nat} {d : D} (b : InB X W S n ["_law_actual", "_law_due", "_law_kinds", "_law_k"] (defScope s_law_same) U) (T : Mb W) (rec : ∀ m, n = m + 1 → Fn W S n "_law_same" 2 [] (RSame m)) (hf : plain d = true) (hn : deep d ≤ n) :
    XB X S U (enOf 4 [d, d]) (defBody s_law_same) (poOf (.ok (.bl true))) := by
  have C := b.C
  obtain ⟨n__law_actual, l__law_actual⟩ := b.nm 0 "_law_actual" rfl (.inl rfl) (by decide) (by decide)
  obtain ⟨n__law_due, l__law_due⟩ := b.nm 1 "_law_due" rfl (.inl rfl) (by decide) (by decide)
  obtain ⟨n__law_kinds, l__law_kinds⟩ := b.nm 2 "_law_kinds" rfl (.inl rfl) (by decide) (by decide)
  obtain ⟨n__law_k, l__law_k⟩ := b.nm 3 "_law_k" rfl (.inl rfl) (by decide) (by decide)
  have g_isinstance := b.ng "isinstance" rfl (by decide)
  have m_isinstance := b.mg T.isinstance
  have g_int := b.ng "int" rfl (by decide)
  have m_int := b.mg T.int
  have g_bool := b.ng "bool" rfl (by decide)
  have m_bool := b.mg T.bool
  have g_str := b.ng "str" rfl (by decide)
  have m_str := b.mg T.str
  have g_tuple := b.ng "tuple" rfl (by decide)
  have m_tuple := b.mg T.tuple
  have g_list := b.ng "list" rfl (by decide)
  have m_list := b.mg T.list
  have g_len := b.ng "len" rfl (by decide)
  have m_len := b.mg T.len
  have g_range := b.ng "range" rfl (by decide)
  have m_range := b.mg T.range
  have g__law_same := b.ng "_law_same" rfl (by decide)
  change XB _ _ _ [.v d, .v d, .no, .no] _ _
  have loop : ∀ l : List D, plains l = true → deep.deeps l < n → (∀ i < l.length, IxD X S d (.int (0 + (i : Int))) (itOf l i)) → CallD X S (.builtin "len") [d] (.int (l.length : Int)) → l.length ≤ 100000 →
      XB X S U [.v d, .v d, .no, .no] ((defBody s_law_same).drop 6) (poOf (.ok (.bl true))) := by
    intro l fl dl ix ln sm
    refine' s_mid (fun g => True) (s_for C (n := l.length) (it := fun i => .int (0 + i)) (i_range1 g_range m_range (a_cons (e_callB (id := "len") ln g_len m_len PyProof.Rows.Boot.«len» (a_cons (e_var n__law_due rfl) a_nil)) a_nil) ⟨by omega, by omega⟩)
      (fun i g => ∃ k : Sl, g = [.v d, .v d, .no, k]) ⟨.no, rfl⟩ ?_ (fun g h => trivial)) ?_
    · rintro i g hi ⟨k, rfl⟩
      refine ⟨_, g_name C.toKb l__law_k, ?_⟩
      dsimp only [List.set_cons_succ, List.set_cons_zero]
      obtain ⟨m, hm⟩ : ∃ m, n = m + 1 := ⟨n - 1, by omega⟩
      have f_rec := rec m hm
      have mem : itOf l i ∈ l := List.mem_of_getElem? (itOf_get hi)
      refine' s_cons (s_if (b := false) ?t1 (fun z => nomatch z) (fun _ => s_nil ?k1))
      case t1 =>
        refine' t_not (bb := true) (t_val (e_call C f_rec g__law_same ?a1 ?r1 ?h1 (Nat.le_refl _)))
        case a1 =>
          refine' a_cons (e_ix (e_var n__law_actual rfl) (e_var n__law_k rfl) (ix i hi)) (a_cons (e_ix (e_var n__law_due rfl) (e_var n__law_k rfl) (ix i hi)) a_nil)
        case h1 => rfl
        case r1 => exact same_r rfl (plains_mem fl mem) (by have := deeps_mem mem; omega)
      case k1 => exact s_nil ⟨_, rfl⟩
    · intro g _
      refine' s_cons (s_ret e_bl rfl)
  cases d with
  | non =>
    walk_at "ifT"
    walk_at "asg"
    walk_at "ret"
    rfl
  | bl v =>
    cases v with
    | true =>
      walk_at "ifT"
      walk_at "asg"
      walk_at "ret"
      rfl
    | false =>
      walk_at "ifT"
      walk_at "asg"
      walk_at "ret"
      rfl
  | int i =>
    walk_at "ifF"
    walk_at "ifT"
    walk_at "ret"
    show D.bl _ = D.bl _
    simp [isTy]
  | str x =>
    walk_at "ifF"
    walk_at "ifF"
    walk_at "ifT"
    walk_at "ret"
    show D.bl _ = D.bl _
    simp [isTy]
  | tup l =>
    unfold plain at hf
    rw [Bool.and_eq_true] at hf
    obtain ⟨hz, hf⟩ := hf
    have hs := Nat.le_of_ble_eq_true hz
    clear hz
    have hn' : deep.deeps l + 1 ≤ n := hn
    walk_at "ifF"
    walk_at "ifF"
    walk_at "ifF"
    walk_at "ifF"
    walk_at "ifF"
    walk_at "ifF"
    exact loop l hf (by omega) (fun i hi => x_tup C.toKb (itOf_at hi)) (k_lenT C.toKb) hs
  | lst l =>
    unfold plain at hf
    rw [Bool.and_eq_true] at hf
    obtain ⟨hz, hf⟩ := hf
    have hs := Nat.le_of_ble_eq_true hz
    clear hz
    have hn' : deep.deeps l + 1 ≤ n := hn
    walk_at "ifF"
    walk_at "ifF"
    walk_at "ifF"
    walk_at "ifF"
    walk_at "ifF"
    walk_at "ifF"
    exact loop l hf (by omega) (fun i hi => x_lst C.toKb (itOf_at hi)) (k_lenL C.toKb) hs
  | pt => cases hf
  | obj => cases hf
theorem same_one {f : Addr} {fd : FuncData} {n : Nat} (F : Fd W.K "_law_same" "_law_same" s_law_same [] f fd) (hK : W.K = S.K) (T : Mb W) (rec : ∀ m, n = m + 1 → Fn W S n "_law_same" 2 [] (RSame m)) : FnOk W.P W.w W.K W.mg W.base (L2N.CX W.P W.w) (n + 1) f fd ["_law_actual", "_law_due"] (spOf S 2 (RSame n)) := by
  refine def_ok F hK s_law_same_sc (fun ds o h => by obtain ⟨_, rfl, _⟩ := h; rfl) fun X U ds o b h => ?_
  obtain ⟨d, rfl, hp, hd, rfl⟩ := h
  exact same_body b T rec hp hd
theorem ok_same {f : Addr} {fd : FuncData} (F : Fd W.K "_law_same" "_law_same" s_law_same [] f fd) (hK : W.K = S.K) (T : Mb W) (hm : W.mg "_law_same" = some (.ref f)) (hk : PySem.W.keepIn W.K (.ref f) = true) (hb : Binds W.K fd ["_law_actual", "_law_due"] []) :
    ∀ n, FnOk W.P W.w W.K W.mg W.base (L2N.CX W.P W.w) (n + 1) f fd ["_law_actual", "_law_due"] (spOf S 2 (RSame n))
  | 0 => same_one F hK T fun m h => nomatch h
  | n + 1 => same_one F hK T fun m h => by
    cases h
    exact ⟨f, fd, _, ok_same F hK T hm hk hb n, hm, hk, rfl, [], [], hb, .nil, fun _ => .nil⟩
/-- .. of numbers, an exception being handled -/
def RSameI (ds : List D) (o : Out) : Prop := ∃ i : Int, ds = [.int i, .int i] ∧ o = .ok (.bl true)
theorem hot_same {f : Addr} {fd : FuncData} (F : Fd W.K "_law_same" "_law_same" s_law_same [] f fd) (hK : W.K = S.K) (T : Mb W) : L2H.FnH W.P W.w W.K W.mg W.base (L2N.CX W.P W.w) 1 f fd ["_law_actual", "_law_due"] (spOf S 2 RSameI) := by
  refine def_hot F hK s_law_same_sc (fun ds o h => by obtain ⟨_, _, rfl⟩ := h; exact ⟨_, rfl⟩) fun X U ds o b h => ?_
  obtain ⟨i, rfl, rfl⟩ := h
  have C := b.C
  obtain ⟨n__law_actual, l__law_actual⟩ := b.nm 0 "_law_actual" rfl (.inl rfl) (by decide) (by decide)
  obtain ⟨n__law_due, l__law_due⟩ := b.nm 1 "_law_due" rfl (.inl rfl) (by decide) (by decide)
  obtain ⟨n__law_kinds, l__law_kinds⟩ := b.nm 2 "_law_kinds" rfl (.inl rfl) (by decide) (by decide)
  obtain ⟨n__law_k, l__law_k⟩ := b.nm 3 "_law_k" rfl (.inl rfl) (by decide) (by decide)
  have g_isinstance := b.ng "isinstance" rfl (by decide)
  have m_isinstance := b.mg T.isinstance
  have g_int := b.ng "int" rfl (by decide)
  have m_int := b.mg T.int
  have g_bool := b.ng "bool" rfl (by decide)
  have m_bool := b.mg T.bool
  have g_str := b.ng "str" rfl (by decide)
  have m_str := b.mg T.str
  have g_tuple := b.ng "tuple" rfl (by decide)
  have m_tuple := b.mg T.tuple
  have g_list := b.ng "list" rfl (by decide)
  have m_list := b.mg T.list
  have g_len := b.ng "len" rfl (by decide)
  have m_len := b.mg T.len
  have g_range := b.ng "range" rfl (by decide)
  have m_range := b.mg T.range
  have g__law_same := b.ng "_law_same" rfl (by decide)
  change XB _ _ _ [.v (.int i), .v (.int i), .no, .no] _ _
  walk_at "ifF"
  walk_at "ifT"
  walk_at "ret"
  show D.bl _ = D.bl _
  simp [isTy]
end
local macro_rules | `(tactic| walk_at "cl") => `(tactic| exact same_r (by walk_at "sm") (by first | rfl | assumption) (by exact Nat.le_of_ble_eq_true rfl))

abbrev s_law_gcd : Stmt := topS 24
theorem s_law_gcd_sc : FnScope ["_law_one", "_law_two", "_law_rest"] ["_law_one", "_law_two"] (defScope s_law_gcd) := ⟨rfl, rfl, rfl, by decide +kernel, rfl, by decide +kernel, by decide +kernel⟩
theorem lgcd_r {a b : Int} : RGcd ([.int a, .int b] ++ []) (.ok (.int (Int.gcd a b : Int))) := ⟨a, b, rfl, rfl⟩
section
variable {W : Wd} {S : Sg}
theorem ok_lgcd {f : Addr} {fd : FuncData} (F : Fd W.K "_law_gcd" "_law_gcd" s_law_gcd [] f fd) (hK : W.K = S.K) (T : Mb W) : FnOk W.P W.w W.K W.mg W.base (L2N.CX W.P W.w) 1 f fd ["_law_one", "_law_two"] (spOf S 2 RGcd) := by
  refine def_ok F hK s_law_gcd_sc (fun ds o h => by obtain ⟨a, b, rfl, _⟩ := h; rfl) fun X U ds o b h => ?_
  obtain ⟨p, q, rfl, rfl⟩ := h
  have C := b.C
  obtain ⟨n__law_one, l__law_one⟩ := b.nm 0 "_law_one" rfl (.inl rfl) (by decide) (by decide)
  obtain ⟨n__law_two, l__law_two⟩ := b.nm 1 "_law_two" rfl (.inl rfl) (by decide) (by decide)
  obtain ⟨n__law_rest, l__law_rest⟩ := b.nm 2 "_law_rest" rfl (.inl rfl) (by decide) (by decide)
  have g_abs := b.ng "abs" rfl (by decide)
  have m_abs := b.mg T.abs
  have g_int := b.ng "int" rfl (by decide)
  have m_int := b.mg T.int
  change XB _ _ _ [.v (.int p), .v (.int q), .no] _ _
  walk_at "asg"
  walk_at "asg"
  refine s_mid (fun g => ∃ (u : Int) (k : Sl), g = [.v (.int u), .v (.int 0), k] ∧ 0 ≤ u ∧ Int.gcd u 0 = Int.gcd p q) ?_ ?_
  · refine s_while C.toKb (fun m g => ∃ (u v : Int) (k : Sl), g = [.v (.int u), .v (.int v), k] ∧ 0 ≤ u ∧ 0 ≤ v ∧ Int.gcd u v = Int.gcd p q ∧ m = v.natAbs) _ ⟨_, _, _, rfl, by split <;> omega, by split <;> omega, by split <;> split <;> simp [Int.gcd_neg, Int.neg_gcd], rfl⟩ ?_
    rintro m g ⟨u, v, k, rfl, h0, h1, h2, rfl⟩
    refine' ⟨_, ?tx, ?y, ?n⟩
    case tx => walk_at "tx"
    case n =>
      intro hb
      have hv : ¬ 0 < v := by simpa using hb
      have e : v = 0 := by omega
      subst e
      exact ⟨u, k, rfl, h0, h2⟩
    case y =>
      intro hb
      have hv : 0 < v := by simpa using hb
      walk_at "asg"
      walk_at "asg"
      walk_at "asg"
      have e1 := Int.emod_nonneg u (show v ≠ 0 by omega)
      have e2 := Int.emod_lt_of_pos u hv
      have e := @Int.fmod_eq_emod u v
      rw [if_pos (.inl h1)] at e
      have e' : u % v = u.fmod v := by rw [e]; omega
      exact s_nil ⟨(u % v).natAbs, by omega, v, u % v, _, rfl, h1, e1, by rw [e', gcd_fmod, h2], rfl⟩
  · rintro g ⟨u, k, rfl, h0, h1⟩
    walk_at "ret"
    show D.int _ = D.int _
    rw [← h1]
    simp
    omega
end

abbrev s_law_reduced : Stmt := topS 25
theorem s_law_reduced_sc : FnScope ["_law_n", "_law_d", "_law_shared"] ["_law_n", "_law_d"] (defScope s_law_reduced) := ⟨rfl, rfl, rfl, by decide +kernel, rfl, by decide +kernel, by decide +kernel⟩
def RLRed (ds : List D) (o : Out) : Prop := ∃ n d : Int, 0 < d ∧ Bd d 8000 ∧ ds = [.int n, .int d] ∧ o = .ok (lowT n d)
theorem lred_r {n d : Int} {m : Nat} [y : Bd d m] (h : 0 < d) (hm : m ≤ 8000) : RLRed ([.int n, .int d] ++ []) (.ok (lowT n d)) := ⟨n, d, h, ⟨y.up hm⟩, rfl, rfl⟩
local macro_rules | `(tactic| walk_at "cl") => `(tactic| exact lred_r (by first | assumption | decide | omega) (by decide +kernel))
section
variable {W : Wd} {S : Sg}
theorem ok_lred {f : Addr} {fd : FuncData} (F : Fd W.K "_law_reduced" "_law_reduced" s_law_reduced [] f fd) (hK : W.K = S.K) (T : Mb W) (f_lgcd : Fn W S 1 "_law_gcd" 2 [] RGcd) :
    FnOk W.P W.w W.K W.mg W.base (L2N.CX W.P W.w) 2 f fd ["_law_n", "_law_d"] (spOf S 2 RLRed) := by
  refine def_ok F hK s_law_reduced_sc (fun ds o h => by obtain ⟨a, b, _, _, rfl, _⟩ := h; rfl) fun X U ds o b h => ?_
  obtain ⟨n, d, h0, h1, rfl, rfl⟩ := h
  have C := b.C
  obtain ⟨n__law_n, l__law_n⟩ := b.nm 0 "_law_n" rfl (.inl rfl) (by decide) (by decide)
  obtain ⟨n__law_d, l__law_d⟩ := b.nm 1 "_law_d" rfl (.inl rfl) (by decide) (by decide)
  obtain ⟨n__law_shared, l__law_shared⟩ := b.nm 2 "_law_shared" rfl (.inl rfl) (by decide) (by decide)
  have g__law_gcd := b.ng "_law_gcd" rfl (by decide)
  change XB _ _ _ [.v (.int n), .v (.int d), .no] _ _
  walk_at "asg"
  have hg := gcd_pos (n := n) h0
  haveI := gcd_small (n := n) h0 h1
  walk_at "ret"
  rfl
end

abbrev s_law_draw_number : Stmt := topS 26
theorem s_law_draw_number_sc : FnScope ["_law_pool", "_law_at", "_law_number", "_law_k"] ["_law_pool", "_law_at"] (defScope s_law_draw_number) := ⟨rfl, rfl, rfl, by decide +kernel, rfl, by decide +kernel, by decide +kernel⟩
def gI (L : List Int) (i : Int) : Int := L.getD i.toNat 0
def numV (L : List Int) (a : Int) : Nat → Int
  | 0 => 0
  | k + 1 => numV L a k * 1000 + gI L (a + 1 + (0 + (k : Int)))
def numL (L : List Int) (a : Int) : Int := if gI L a % 3 = 0 then gI L (a + 1) % 7 - 3 else if gI L a % 3 = 1 then gI L (a + 1) - 400 else if gI L (a + 11) % 2 = 1 then 0 - numV L a 10 else numV L a 10
def pool (L : List Int) : Prop := ∀ x ∈ L, 0 ≤ x ∧ x < 1000
theorem gI_in {L : List Int} {i : Int} (h : pool L) : 0 ≤ gI L i ∧ gI L i < 1000 := by
  unfold gI
  rw [List.getD_eq_getElem?_getD]
  cases e : L[i.toNat]? with
  | none => exact ⟨by decide, by decide⟩
  | some x => exact h x (List.mem_of_getElem? e)
theorem numV_in {L : List Int} {a : Int} (h : pool L) : ∀ k, 0 ≤ numV L a k ∧ numV L a k < 1000 ^ k
  | 0 => ⟨Int.le_refl _, by show (0 : Int) < 1000 ^ 0; decide⟩
  | k + 1 => by
    have h1 := numV_in (a := a) h k
    have h2 := gI_in (i := a + 1 + (0 + (k : Int))) h
    unfold numV
    have e : (1000 : Int) ^ (k + 1) = 1000 ^ k * 1000 := Int.pow_succ ..
    rw [e]
    omega
theorem numL_bd {L : List Int} {a : Int} (h : pool L) : Bd (numL L a) 100 := ⟨by
  have h1 := gI_in (i := a) h
  have h2 := gI_in (i := a + 1) h
  have h3 := numV_in (a := a) h 10
  have h4 : numV L a 10 < 1000000000000000000000000000000 := h3.2
  have h5 := h3.1
  unfold numL
  split
  · omega
  · split
    · omega
    · split <;> omega⟩
theorem atI_pool {L : List Int} {i : Int} (h0 : 0 ≤ i) (h : i < L.length) : atI (L.map D.int) i = some (.int (gI L i)) := Fw.atI_int h0 h
local macro_rules | `(tactic| walk_at "at") => `(tactic| exact atI_pool (by first | assumption | decide | omega) (by first | assumption | omega))
def RNum (ds : List D) (o : Out) : Prop := ∃ (L : List Int) (a : Int), 0 ≤ a ∧ a + 11 < L.length ∧ pool L ∧ ds = [.lst (L.map D.int), .int a] ∧ o = .ok (.int (numL L a))
theorem number_r {L : List Int} {a : Int} (h : 0 ≤ a) (h1 : a + 11 < L.length) (h2 : pool L) : RNum ([.lst (L.map D.int), .int a] ++ []) (.ok (.int (numL L a))) := ⟨L, a, h, h1, h2, rfl, rfl⟩
section
variable {W : Wd} {S : Sg}
theorem ok_number {f : Addr} {fd : FuncData} (F : Fd W.K "_law_draw_number" "_law_draw_number" s_law_draw_number [] f fd) (hK : W.K = S.K) (T : Mb W) :
    FnOk W.P W.w W.K W.mg W.base (L2N.CX W.P W.w) 1 f fd ["_law_pool", "_law_at"] (spOf S 2 RNum) := by
  refine def_ok F hK s_law_draw_number_sc (fun ds o h => by obtain ⟨a, b, _, _, _, rfl, _⟩ := h; rfl) fun X U ds o b h => ?_
  obtain ⟨L, a, h0, h1, h2, rfl, rfl⟩ := h
  have C := b.C
  obtain ⟨n__law_pool, l__law_pool⟩ := b.nm 0 "_law_pool" rfl (.inl rfl) (by decide) (by decide)
  obtain ⟨n__law_at, l__law_at⟩ := b.nm 1 "_law_at" rfl (.inl rfl) (by decide) (by decide)
  obtain ⟨n__law_number, l__law_number⟩ := b.nm 2 "_law_number" rfl (.inl rfl) (by decide) (by decide)
  obtain ⟨n__law_k, l__law_k⟩ := b.nm 3 "_law_k" rfl (.inl rfl) (by decide) (by decide)
  have g_int := b.ng "int" rfl (by decide)
  have m_int := b.mg T.int
  have g_range := b.ng "range" rfl (by decide)
  have m_range := b.mg T.range
  change XB _ _ _ [.v (.lst (L.map D.int)), .v (.int a), .no, .no] _ _
  by_cases z0 : gI L a % 3 = 0
  · walk_at "ifT"
    walk_at "ret"
    show D.int _ = D.int _
    unfold numL
    rw [if_pos z0]
  · walk_at "ifF"
    by_cases z1 : gI L a % 3 = 1
    · walk_at "ifT"
      walk_at "ret"
      show D.int _ = D.int _
      unfold numL
      rw [if_neg z0, if_pos z1]
    · walk_at "ifF"
      walk_at "asg"
      refine s_mid (fun g => ∃ k : Sl, g = [.v (.lst (L.map D.int)), .v (.int a), .v (.int (numV L a 10)), k]) ?_ ?_
      · refine' s_for C (n := 10) (it := fun i => .int (0 + i)) (i_range1 g_range m_range (a_cons e_int a_nil) ⟨by decide, by decide⟩) (fun i g => ∃ k : Sl, g = [.v (.lst (L.map D.int)), .v (.int a), .v (.int (numV L a i)), k]) ⟨_, rfl⟩ ?_ (fun g h => h)
        rintro i g hi ⟨k, rfl⟩
        refine ⟨_, g_name C.toKb l__law_k, ?_⟩
        dsimp only [List.set_cons_succ, List.set_cons_zero]
        have hv := numV_in (a := a) h2 i
        haveI : Bd (numV L a i) 100 := ⟨by
          have : (1000 : Int) ^ i ≤ 1000 ^ 10 := by
            have h9 : i ≤ 10 := by omega
            have := Nat.pow_le_pow_right (n := 1000) (by decide) h9
            exact_mod_cast this
          have e : (1000 : Int) ^ 10 = 1000000000000000000000000000000 := by decide
          rw [e] at this
          omega⟩
        walk_at "asg"
        exact s_nil ⟨_, rfl⟩
      · rintro g ⟨k, rfl⟩
        have hn : numL L a = if gI L (a + 11) % 2 = 1 then 0 - numV L a 10 else numV L a 10 := by
          unfold numL
          rw [if_neg z0, if_neg z1]
        by_cases z2 : gI L (a + 11) % 2 = 1
        · walk_at "ifT"
          walk_at "asg"
          refine s_nil ?_
          walk_at "ret"
          show D.int _ = D.int _
          rw [hn, if_pos z2]
        · walk_at "ifF"
          walk_at "ret"
          show D.int _ = D.int _
          rw [hn, if_neg z2]
end
local macro_rules | `(tactic| walk_at "cl") => `(tactic| exact number_r (by first | assumption | decide | omega) (by first | assumption | omega) (by assumption))

abbrev s_law_draw_over : Stmt := topS 27
theorem s_law_draw_over_sc : FnScope ["_law_pool", "_law_at"] ["_law_pool", "_law_at"] (defScope s_law_draw_over) := ⟨rfl, rfl, rfl, by decide +kernel, rfl, by decide +kernel, by decide +kernel⟩
def overL (L : List Int) (a : Int) : Int := if gI L a % 3 = 0 then 1 else if gI L a % 3 = 1 then 1 + gI L (a + 1) % 12 else 1 + gI L (a + 1)
theorem overL_in {L : List Int} {a : Int} (h : pool L) : 0 < overL L a ∧ overL L a ≤ 1000 := by
  have h1 := gI_in (i := a + 1) h
  unfold overL
  split
  · omega
  · split <;> omega
def ROver (ds : List D) (o : Out) : Prop := ∃ (L : List Int) (a : Int), 0 ≤ a ∧ a + 1 < L.length ∧ pool L ∧ ds = [.lst (L.map D.int), .int a] ∧ o = .ok (.int (overL L a))
theorem over_r {L : List Int} {a : Int} (h : 0 ≤ a) (h1 : a + 1 < L.length) (h2 : pool L) : ROver ([.lst (L.map D.int), .int a] ++ []) (.ok (.int (overL L a))) := ⟨L, a, h, h1, h2, rfl, rfl⟩
section
variable {W : Wd} {S : Sg}
theorem ok_over {f : Addr} {fd : FuncData} (F : Fd W.K "_law_draw_over" "_law_draw_over" s_law_draw_over [] f fd) (hK : W.K = S.K) (T : Mb W) :
    FnOk W.P W.w W.K W.mg W.base (L2N.CX W.P W.w) 1 f fd ["_law_pool", "_law_at"] (spOf S 2 ROver) := by
  refine def_ok F hK s_law_draw_over_sc (fun ds o h => by obtain ⟨a, b, _, _, _, rfl, _⟩ := h; rfl) fun X U ds o b h => ?_
  obtain ⟨L, a, h0, h1, h2, rfl, rfl⟩ := h
  have C := b.C
  obtain ⟨n__law_pool, l__law_pool⟩ := b.nm 0 "_law_pool" rfl (.inl rfl) (by decide) (by decide)
  obtain ⟨n__law_at, l__law_at⟩ := b.nm 1 "_law_at" rfl (.inl rfl) (by decide) (by decide)
  have g_int := b.ng "int" rfl (by decide)
  have m_int := b.mg T.int
  change XB _ _ _ [.v (.lst (L.map D.int)), .v (.int a)] _ _
  by_cases z0 : gI L a % 3 = 0
  · walk_at "ifT"
    walk_at "ret"
    show D.int _ = D.int _
    unfold overL
    rw [if_pos z0]
  · walk_at "ifF"
    by_cases z1 : gI L a % 3 = 1
    · walk_at "ifT"
      walk_at "ret"
      show D.int _ = D.int _
      unfold overL
      rw [if_neg z0, if_pos z1]
    · walk_at "ifF"
      walk_at "ret"
      show D.int _ = D.int _
      unfold overL
      rw [if_neg z0, if_neg z1]
end
local macro_rules | `(tactic| walk_at "cl") => `(tactic| exact over_r (by first | assumption | decide | omega) (by first | assumption | omega) (by assumption))

abbrev s_cell_at : Stmt := topS 17
theorem s_cell_at_sc : FnScope ["slope", "level", "step", "a", "b", "m", "n", "x", "y", "moves"] ["slope", "level", "step"] (defScope s_cell_at) := ⟨rfl, rfl, rfl, by decide +kernel, rfl, by decide +kernel, by decide +kernel⟩
/-- the cell of a value in a step -/
def cellOf (a b l s : Int) : Int × Int :=
  (-(combOf a b).2 * l + (s - (a * (-(combOf a b).2 * l) + b * ((combOf a b).1 * l)) / (a * a + b * b)) * a, (combOf a b).1 * l + (s - (a * (-(combOf a b).2 * l) + b * ((combOf a b).1 * l)) / (a * a + b * b)) * b)
theorem size_pos {a b : Int} (h : Int.gcd a b = 1) : 0 < a * a + b * b := by
  have h1 : 0 ≤ a * a := by rcases Int.le_total 0 a with z | z; exact Int.mul_nonneg z z; exact Int.mul_nonneg_of_nonpos_of_nonpos z z
  have h2 : 0 ≤ b * b := by rcases Int.le_total 0 b with z | z; exact Int.mul_nonneg z z; exact Int.mul_nonneg_of_nonpos_of_nonpos z z
  rcases Int.lt_or_le 0 (a * a + b * b) with z | z
  · exact z
  · have ha : a * a = 0 := by omega
    have hb : b * b = 0 := by omega
    have ha' : a = 0 := by rcases Int.mul_eq_zero.mp ha with q | q <;> exact q
    have hb' : b = 0 := by rcases Int.mul_eq_zero.mp hb with q | q <;> exact q
    subst ha'
    subst hb'
    simp at h
theorem cell_val {a b l s : Int} (h : Int.gcd a b = 1) : a * (cellOf a b l s).2 - b * (cellOf a b l s).1 = l := by
  have e := comb_law (a := a) (b := b)
  rw [h] at e
  unfold cellOf
  generalize (combOf a b).1 = m at e ⊢
  generalize (combOf a b).2 = n at e ⊢
  dsimp only
  generalize s - (a * (-n * l) + b * (m * l)) / (a * a + b * b) = mv
  have e' : a * m + b * n = 1 := by omega
  clear e h
  grind
theorem cell_pos {a b l s : Int} (h : Int.gcd a b = 1) : s * (a * a + b * b) ≤ a * (cellOf a b l s).1 + b * (cellOf a b l s).2 ∧ a * (cellOf a b l s).1 + b * (cellOf a b l s).2 < (s + 1) * (a * a + b * b) := by
  have hp := size_pos h
  unfold cellOf
  dsimp only
  generalize -(combOf a b).2 * l = x
  generalize (combOf a b).1 * l = y
  have e1 := Int.mul_ediv_add_emod (a * x + b * y) (a * a + b * b)
  have e2 := Int.emod_nonneg (a * x + b * y) (show a * a + b * b ≠ 0 by omega)
  have e3 := Int.emod_lt_of_pos (a * x + b * y) hp
  generalize (a * x + b * y) % (a * a + b * b) = r at *
  generalize (a * x + b * y) / (a * a + b * b) = q at *
  have k : a * (x + (s - q) * a) + b * (y + (s - q) * b) = s * (a * a + b * b) + r := by grind
  rw [k, Int.add_mul]
  omega
theorem cell_next {a b l s : Int} : cellOf a b l (s + 1) = ((cellOf a b l s).1 + a, (cellOf a b l s).2 + b) := by
  unfold cellOf
  dsimp only
  generalize (a * (-(combOf a b).2 * l) + b * ((combOf a b).1 * l)) / (a * a + b * b) = q
  refine Prod.ext ?_ ?_
  · show _ + (s + 1 - q) * a = _ + (s - q) * a + a
    grind
  · show _ + (s + 1 - q) * b = _ + (s - q) * b + b
    grind
/-- a step has one cell of each value -/
theorem cell_uniq {a b s x y X Y : Int} (h : Int.gcd a b = 1) (h1 : a * Y - b * X = a * y - b * x) (h2 : s * (a * a + b * b) ≤ a * X + b * Y ∧ a * X + b * Y < (s + 1) * (a * a + b * b)) (h3 : s * (a * a + b * b) ≤ a * x + b * y ∧ a * x + b * y < (s + 1) * (a * a + b * b)) : X = x ∧ Y = y := by
  have e := comb_law (a := a) (b := b)
  rw [h] at e
  have hp := size_pos h
  generalize (combOf a b).1 = m at e
  generalize (combOf a b).2 = n at e
  have e' : a * m + b * n = 1 := by omega
  clear e h
  rw [Int.add_mul, Int.one_mul] at h2 h3
  have k0 : a * X + b * Y - (a * x + b * y) = (a * a + b * b) * (m * (X - x) + n * (Y - y)) := by grind
  have k1 : (a * a + b * b) * (X - x) = a * (a * X + b * Y - (a * x + b * y)) := by grind
  have k2 : (a * a + b * b) * (Y - y) = b * (a * X + b * Y - (a * x + b * y)) := by grind
  have z : m * (X - x) + n * (Y - y) = 0 := by
    rcases Int.lt_trichotomy (m * (X - x) + n * (Y - y)) 0 with q | q | q
    · have : (a * a + b * b) * (m * (X - x) + n * (Y - y)) ≤ (a * a + b * b) * (-1) := Int.mul_le_mul_of_nonneg_left (by omega) (by omega)
      omega
    · exact q
    · have : (a * a + b * b) * 1 ≤ (a * a + b * b) * (m * (X - x) + n * (Y - y)) := Int.mul_le_mul_of_nonneg_left (by omega) (by omega)
      omega
  rw [z, Int.mul_zero] at k0
  rw [k0, Int.mul_zero] at k1 k2
  rcases Int.mul_eq_zero.mp k1 with q | q
  · omega
  · rcases Int.mul_eq_zero.mp k2 with q2 | q2
    · omega
    · exact ⟨by omega, by omega⟩
theorem cell_bd {a b l s : Int} (h1 : Bd a 1000) (h2 : Bd b 1000) (h3 : Bd l 1000) (h4 : Bd s 1000) : Bd (cellOf a b l s).1 6000 ∧ Bd (cellOf a b l s).2 6000 := by
  haveI := (comb_bd h1 h2).1
  haveI := (comb_bd h1 h2).2
  unfold cellOf
  dsimp only
  have i1 : Bd (-(combOf a b).2 * l + (s - (a * (-(combOf a b).2 * l) + b * ((combOf a b).1 * l)) / (a * a + b * b)) * a) _ := inferInstance
  have i2 : Bd ((combOf a b).1 * l + (s - (a * (-(combOf a b).2 * l) + b * ((combOf a b).1 * l)) / (a * a + b * b)) * b) _ := inferInstance
  exact ⟨⟨i1.up (by decide +kernel)⟩, ⟨i2.up (by decide +kernel)⟩⟩
def RCell (ds : List D) (o : Out) : Prop := ∃ a b l s : Int, Int.gcd a b = 1 ∧ Bd a 1000 ∧ Bd b 1000 ∧ Bd l 1000 ∧ Bd s 1000 ∧ ds = [slopeT a b, .int l, .int s] ∧ o = .ok (slopeT (cellOf a b l s).1 (cellOf a b l s).2)
theorem cell_r {a b l s : Int} {n1 n2 n3 n4 : Nat} [b1 : Bd a n1] [b2 : Bd b n2] [b3 : Bd l n3] [b4 : Bd s n4] (h : Int.gcd a b = 1) (h1 : n1 ≤ 1000 ∧ n2 ≤ 1000 ∧ n3 ≤ 1000 ∧ n4 ≤ 1000) : RCell ([slopeT a b, .int l, .int s] ++ []) (.ok (slopeT (cellOf a b l s).1 (cellOf a b l s).2)) :=
  ⟨a, b, l, s, h, ⟨b1.up h1.1⟩, ⟨b2.up h1.2.1⟩, ⟨b3.up h1.2.2.1⟩, ⟨b4.up h1.2.2.2⟩, rfl, rfl⟩
section
variable {W : Wd} {S : Sg}
theorem ok_cellat {f : Addr} {fd : FuncData} (F : Fd W.K "cell_at" "cell_at" s_cell_at [] f fd) (hK : W.K = S.K) (T : Mb W) (f_checkslope : Fn W S 3 "check_slope" 1 [] RChk) (f_comb : Fn W S 1 "combination" 2 [] RComb) :
    FnOk W.P W.w W.K W.mg W.base (L2N.CX W.P W.w) 4 f fd ["slope", "level", "step"] (spOf S 3 RCell) := by
  refine def_ok F hK s_cell_at_sc (fun ds o h => by obtain ⟨_, _, _, _, _, _, _, _, _, rfl, _⟩ := h; rfl) fun X U ds o b h => ?_
  obtain ⟨a, b', l, s, h, h1, h2, h3, h4, rfl, rfl⟩ := h
  have C := b.C
  obtain ⟨n_slope, l_slope⟩ := b.nm 0 "slope" rfl (.inl rfl) (by decide) (by decide)
  obtain ⟨n_level, l_level⟩ := b.nm 1 "level" rfl (.inl rfl) (by decide) (by decide)
  obtain ⟨n_step, l_step⟩ := b.nm 2 "step" rfl (.inl rfl) (by decide) (by decide)
  obtain ⟨n_a, l_a⟩ := b.nm 3 "a" rfl (.inl rfl) (by decide) (by decide)
  obtain ⟨n_b, l_b⟩ := b.nm 4 "b" rfl (.inl rfl) (by decide) (by decide)
  obtain ⟨n_m, l_m⟩ := b.nm 5 "m" rfl (.inl rfl) (by decide) (by decide)
  obtain ⟨n_n, l_n⟩ := b.nm 6 "n" rfl (.inl rfl) (by decide) (by decide)
  obtain ⟨n_x, l_x⟩ := b.nm 7 "x" rfl (.inl rfl) (by decide) (by decide)
  obtain ⟨n_y, l_y⟩ := b.nm 8 "y" rfl (.inl rfl) (by decide) (by decide)
  obtain ⟨n_moves, l_moves⟩ := b.nm 9 "moves" rfl (.inl rfl) (by decide) (by decide)
  have g_check_slope := b.ng "check_slope" rfl (by decide)
  have g_combination := b.ng "combination" rfl (by decide)
  change XB _ _ _ [.v (slopeT a b'), .v (.int l), .v (.int s), .no, .no, .no, .no, .no, .no, .no] _ _
  refine' s_cons (s_expr ?x1 ?k1)
  case x1 => walk_at "ex"
  walk_at "sp2"
  walk_at "sp2"
  haveI := (comb_bd h1 h2).1
  haveI := (comb_bd h1 h2).2
  have hp := size_pos h
  refine' s_cons (s_par b l_x l_y ?x2 ?x3 ?k2)
  case x2 => walk_at "ex"
  case x3 => walk_at "ex"
  dsimp only [List.set_cons_succ, List.set_cons_zero]
  walk_at "asg"
  walk_at "ret"
  rfl
end
local macro_rules | `(tactic| walk_at "cl") => `(tactic| exact cell_r (by assumption) (by decide +kernel))

abbrev s_mate : Stmt := topS 16
theorem s_mate_sc : FnScope ["slope"] ["slope"] (defScope s_mate) := ⟨rfl, rfl, rfl, by decide +kernel, rfl, by decide +kernel, by decide +kernel⟩
def RMate (ds : List D) (o : Out) : Prop := ∃ a b : Int, Int.gcd a b = 1 ∧ Bd a 1000 ∧ Bd b 1000 ∧ ds = [slopeT a b] ∧ o = .ok (slopeT (cellOf a b 1 0).1 (cellOf a b 1 0).2)
theorem mate_r {a b : Int} {n1 n2 : Nat} [b1 : Bd a n1] [b2 : Bd b n2] (h : Int.gcd a b = 1) (h1 : n1 ≤ 1000 ∧ n2 ≤ 1000) : RMate ([slopeT a b] ++ []) (.ok (slopeT (cellOf a b 1 0).1 (cellOf a b 1 0).2)) := ⟨a, b, h, ⟨b1.up h1.1⟩, ⟨b2.up h1.2⟩, rfl, rfl⟩
section
variable {W : Wd} {S : Sg}
theorem ok_mate {f : Addr} {fd : FuncData} (F : Fd W.K "mate" "mate" s_mate [] f fd) (hK : W.K = S.K) (T : Mb W) (f_cellat : Fn W S 4 "cell_at" 3 [] RCell) :
    FnOk W.P W.w W.K W.mg W.base (L2N.CX W.P W.w) 5 f fd ["slope"] (spOf S 1 RMate) := by
  refine def_ok F hK s_mate_sc (fun ds o h => by obtain ⟨_, _, _, _, _, rfl, _⟩ := h; rfl) fun X U ds o b h => ?_
  obtain ⟨a, b', h, h1, h2, rfl, rfl⟩ := h
  have C := b.C
  obtain ⟨n_slope, l_slope⟩ := b.nm 0 "slope" rfl (.inl rfl) (by decide) (by decide)
  have g_cell_at := b.ng "cell_at" rfl (by decide)
  change XB _ _ _ [.v (slopeT a b')] _ _
  walk_at "ret"
  rfl
end
local macro_rules | `(tactic| walk_at "cl") => `(tactic| exact mate_r (by assumption) (by decide +kernel))

abbrev s_law_is_integer : Stmt := topS 22
theorem s_law_is_integer_sc : FnScope ["_law_number"] ["_law_number"] (defScope s_law_is_integer) := ⟨rfl, rfl, rfl, by decide +kernel, rfl, by decide +kernel, by decide +kernel⟩
def RIsI (ds : List D) (o : Out) : Prop := ∃ i : Int, ds = [.int i] ∧ o = .ok (.bl true)
theorem isint_r {i : Int} : RIsI ([.int i] ++ []) (.ok (.bl true)) := ⟨i, rfl, rfl⟩
section
variable {W : Wd} {S : Sg}
theorem ok_isint {f : Addr} {fd : FuncData} (F : Fd W.K "_law_is_integer" "_law_is_integer" s_law_is_integer [] f fd) (hK : W.K = S.K) (T : Mb W) : FnOk W.P W.w W.K W.mg W.base (L2N.CX W.P W.w) 1 f fd ["_law_number"] (spOf S 1 RIsI) := by
  refine def_ok F hK s_law_is_integer_sc (fun ds o h => by obtain ⟨_, rfl, _⟩ := h; rfl) fun X U ds o b h => ?_
  obtain ⟨i, rfl, rfl⟩ := h
  have C := b.C
  obtain ⟨n__law_number, l__law_number⟩ := b.nm 0 "_law_number" rfl (.inl rfl) (by decide) (by decide)
  have g_isinstance := b.ng "isinstance" rfl (by decide)
  have m_isinstance := b.mg T.isinstance
  have g_int := b.ng "int" rfl (by decide)
  have m_int := b.mg T.int
  have g_bool := b.ng "bool" rfl (by decide)
  have m_bool := b.mg T.bool
  change XB _ _ _ [.v (.int i)] _ _
  walk_at "ret"
  rfl
end
local macro_rules | `(tactic| walk_at "cl") => `(tactic| exact isint_r)

abbrev s_law_is_pair : Stmt := topS 23
theorem s_law_is_pair_sc : FnScope ["_law_pair"] ["_law_pair"] (defScope s_law_is_pair) := ⟨rfl, rfl, rfl, by decide +kernel, rfl, by decide +kernel, by decide +kernel⟩
def RIsP (ds : List D) (o : Out) : Prop := ∃ i j : Int, ds = [slopeT i j] ∧ o = .ok (.bl true)
theorem ispair_r {i j : Int} : RIsP ([slopeT i j] ++ []) (.ok (.bl true)) := ⟨i, j, rfl, rfl⟩
section
variable {W : Wd} {S : Sg}
theorem ok_ispair {f : Addr} {fd : FuncData} (F : Fd W.K "_law_is_pair" "_law_is_pair" s_law_is_pair [] f fd) (hK : W.K = S.K) (T : Mb W) (f_isint : Fn W S 1 "_law_is_integer" 1 [] RIsI) : FnOk W.P W.w W.K W.mg W.base (L2N.CX W.P W.w) 2 f fd ["_law_pair"] (spOf S 1 RIsP) := by
  refine def_ok F hK s_law_is_pair_sc (fun ds o h => by obtain ⟨_, _, rfl, _⟩ := h; rfl) fun X U ds o b h => ?_
  obtain ⟨i, j, rfl, rfl⟩ := h
  have C := b.C
  obtain ⟨n__law_pair, l__law_pair⟩ := b.nm 0 "_law_pair" rfl (.inl rfl) (by decide) (by decide)
  have g_isinstance := b.ng "isinstance" rfl (by decide)
  have m_isinstance := b.mg T.isinstance
  have g_tuple := b.ng "tuple" rfl (by decide)
  have m_tuple := b.mg T.tuple
  have g_len := b.ng "len" rfl (by decide)
  have m_len := b.mg T.len
  have g__law_is_integer := b.ng "_law_is_integer" rfl (by decide)
  change XB _ _ _ [.v (slopeT i j)] _ _
  walk_at "ifF"
  walk_at "ret"
  rfl
end
local macro_rules | `(tactic| walk_at "cl") => `(tactic| exact ispair_r)

abbrev s_law_draw_slope : Stmt := topS 28
theorem s_law_draw_slope_sc : FnScope ["_law_pool", "_law_at", "_law_a", "_law_b", "_law_shared"] ["_law_pool", "_law_at"] (defScope s_law_draw_slope) := ⟨rfl, rfl, rfl, by decide +kernel, rfl, by decide +kernel, by decide +kernel⟩
def slOf (L : List Int) (i : Int) : Int × Int := if numL L i = 0 ∧ numL L (i + 12) = 0 then (1, 0) else (numL L i / (Int.gcd (numL L i) (numL L (i + 12)) : Int), numL L (i + 12) / (Int.gcd (numL L i) (numL L (i + 12)) : Int))
theorem gcd_pos2 {a b : Int} (h : ¬ (a = 0 ∧ b = 0)) : 0 < (Int.gcd a b : Int) := by
  have : Int.gcd a b ≠ 0 := fun z => h (Int.gcd_eq_zero_iff.mp z)
  omega
theorem gcd_low {a b : Int} (h : ¬ (a = 0 ∧ b = 0)) : Int.gcd (a / (Int.gcd a b : Int)) (b / (Int.gcd a b : Int)) = 1 := by
  have p := gcd_pos2 h
  have := Int.gcd_ediv_gcd_ediv_gcd (i := a) (j := b) (by omega)
  exact this
theorem slOf_law {L : List Int} {i : Int} (h : pool L) : Int.gcd (slOf L i).1 (slOf L i).2 = 1 ∧ Bd (slOf L i).1 100 ∧ Bd (slOf L i).2 100 := by
  have b1 := numL_bd (a := i) h
  have b2 := numL_bd (a := i + 12) h
  unfold slOf
  split
  · exact ⟨rfl, ⟨by decide⟩, ⟨by decide⟩⟩
  · rename_i z
    exact ⟨gcd_low z, inferInstance, inferInstance⟩
def RSlp (ds : List D) (o : Out) : Prop := ∃ (L : List Int) (i : Int), 0 ≤ i ∧ i + 23 < L.length ∧ pool L ∧ ds = [.lst (L.map D.int), .int i] ∧ o = .ok (slopeT (slOf L i).1 (slOf L i).2)
theorem slp_r {L : List Int} {i : Int} (h : 0 ≤ i) (h1 : i + 23 < L.length) (h2 : pool L) : RSlp ([.lst (L.map D.int), .int i] ++ []) (.ok (slopeT (slOf L i).1 (slOf L i).2)) := ⟨L, i, h, h1, h2, rfl, rfl⟩
section
variable {W : Wd} {S : Sg}
theorem ok_drawslope {f : Addr} {fd : FuncData} (F : Fd W.K "_law_draw_slope" "_law_draw_slope" s_law_draw_slope [] f fd) (hK : W.K = S.K) (T : Mb W) (f_number : Fn W S 1 "_law_draw_number" 2 [] RNum) (f_lgcd : Fn W S 1 "_law_gcd" 2 [] RGcd) :
    FnOk W.P W.w W.K W.mg W.base (L2N.CX W.P W.w) 2 f fd ["_law_pool", "_law_at"] (spOf S 2 RSlp) := by
  refine def_ok F hK s_law_draw_slope_sc (fun ds o h => by obtain ⟨_, _, _, _, _, rfl, _⟩ := h; rfl) fun X U ds o b h => ?_
  obtain ⟨L, i, h0, h1, h2, rfl, rfl⟩ := h
  have C := b.C
  obtain ⟨n__law_pool, l__law_pool⟩ := b.nm 0 "_law_pool" rfl (.inl rfl) (by decide) (by decide)
  obtain ⟨n__law_at, l__law_at⟩ := b.nm 1 "_law_at" rfl (.inl rfl) (by decide) (by decide)
  obtain ⟨n__law_a, l__law_a⟩ := b.nm 2 "_law_a" rfl (.inl rfl) (by decide) (by decide)
  obtain ⟨n__law_b, l__law_b⟩ := b.nm 3 "_law_b" rfl (.inl rfl) (by decide) (by decide)
  obtain ⟨n__law_shared, l__law_shared⟩ := b.nm 4 "_law_shared" rfl (.inl rfl) (by decide) (by decide)
  have g__law_draw_number := b.ng "_law_draw_number" rfl (by decide)
  have g__law_gcd := b.ng "_law_gcd" rfl (by decide)
  change XB _ _ _ [.v (.lst (L.map D.int)), .v (.int i), .no, .no, .no] _ _
  have b1 := numL_bd (a := i) h2
  have b2 := numL_bd (a := i + 12) h2
  walk_at "asg"
  walk_at "asg"
  by_cases z : numL L i = 0 ∧ numL L (i + 12) = 0
  · have hz : (decide (numL L i = 0) && decide (numL L (i + 12) = 0)) = true := by simp [z.1, z.2]
    walk_at "ifT"
    walk_at "ret"
    show D.tup _ = D.tup _
    unfold slOf
    rw [if_pos z]
  · have hz : (decide (numL L i = 0) && decide (numL L (i + 12) = 0)) = false := by
      rw [Bool.eq_false_iff]
      simpa using z
    walk_at "ifF"
    walk_at "asg"
    have hg := gcd_pos2 z
    walk_at "ret"
    show D.tup _ = D.tup _
    unfold slOf
    rw [if_neg z]
end
local macro_rules | `(tactic| walk_at "cl") => `(tactic| exact slp_r (by first | assumption | decide | omega) (by first | assumption | omega) (by assumption))

/-! ### fractions and points -/
def g3 (x y v : Int) : Int := (Int.gcd (Int.gcd x y : Int) v : Int)
theorem g3_pos {x y v : Int} (h : 0 < v) : 0 < g3 x y v := gcd_pos h
theorem gcd_mulI {a b f : Int} (h : 0 < f) : (Int.gcd (a * f) (b * f) : Int) = (Int.gcd a b : Int) * f := by
  rw [Int.gcd_mul_right]
  have : (f.natAbs : Int) = f := by omega
  rw [Int.natCast_mul, this]
theorem lowT_mul {n d f : Int} (h : 0 < f) : lowT (n * f) (d * f) = lowT n d := by
  unfold lowT
  rw [gcd_mulI h, Int.mul_ediv_mul_of_pos_left _ _ h, Int.mul_ediv_mul_of_pos_left _ _ h]
theorem g3_mul {x y v f : Int} (h : 0 < f) : g3 (x * f) (y * f) (v * f) = g3 x y v * f := by
  unfold g3
  rw [gcd_mulI h, gcd_mulI h]
theorem normP_g {x y v : Int} : normP x y v = .pt (x / g3 x y v) (y / g3 x y v) (v / g3 x y v) := rfl
theorem normP_mul {x y v f : Int} (h : 0 < f) : normP (x * f) (y * f) (v * f) = normP x y v := by
  rw [normP_g, normP_g, g3_mul h, Int.mul_ediv_mul_of_pos_left _ _ h, Int.mul_ediv_mul_of_pos_left _ _ h, Int.mul_ediv_mul_of_pos_left _ _ h]
theorem g3_one {x y : Int} : g3 x y 1 = 1 := by
  unfold g3
  rw [Int.gcd_one_right]
  rfl
theorem normP_one {x y : Int} : normP x y 1 = .pt x y 1 := by
  rw [normP_g, g3_one]
  simp
theorem lowT_zero {v : Int} (h : 0 < v) : lowT 0 v = .tup [.int 0, .int 1] := by
  unfold lowT
  have e : ((Int.gcd 0 v : Nat) : Int) = v := by rw [Int.gcd_zero_left]; omega
  rw [e, Int.zero_ediv, Int.ediv_self (by omega)]
theorem normP_zero {v : Int} (h : 0 < v) : normP 0 0 v = .pt 0 0 1 := by
  have e : g3 0 0 v = v := by
    unfold g3
    rw [Int.gcd_zero_left (a := 0)]
    show ((Int.gcd ((0 : Nat) : Int) v : Nat) : Int) = v
    rw [Int.ofNat_zero, Int.gcd_zero_left]
    omega
  rw [normP_g, e, Int.zero_ediv, Int.ediv_self (by omega)]
theorem g3_dvd {x y v : Int} : g3 x y v ∣ x ∧ g3 x y v ∣ y ∧ g3 x y v ∣ v := by
  have h1 : g3 x y v ∣ (Int.gcd x y : Int) := Int.gcd_dvd_left _ _
  exact ⟨Int.dvd_trans h1 (Int.gcd_dvd_left _ _), Int.dvd_trans h1 (Int.gcd_dvd_right _ _), Int.gcd_dvd_right _ _⟩
theorem div_g {x g : Int} (h : g ∣ x) : x / g * g = x := Int.ediv_mul_cancel h
theorem normP_cross {a b c x y v : Int} (hc : 0 < c) (hv : 0 < v) (h1 : a * v = x * c) (h2 : b * v = y * c) : normP a b c = normP x y v := by
  rw [← normP_mul (x := a) (y := b) (v := c) hv, ← normP_mul (x := x) (y := y) (v := v) hc, h1, h2, Int.mul_comm c v]
theorem lowT_cross {a c x v : Int} (hc : 0 < c) (hv : 0 < v) (h1 : a * v = x * c) : lowT a c = lowT x v := by
  rw [← lowT_mul (n := a) (d := c) hv, ← lowT_mul (n := x) (d := v) hc, h1, Int.mul_comm c v]

abbrev s_law : Stmt := topS 29
theorem s_law_sc : FnScope ["_law_script", "_law_slope", "_law_pool", "_law_more", "_law_a", "_law_b", "_law_size", "_law_x", "_law_y", "_law_over", "_law_one", "_law_level", "_law_step", "_law_cell"] ["_law_script"] (defScope s_law) := ⟨rfl, rfl, rfl, by decide +kernel, rfl, by decide +kernel, by decide +kernel⟩
theorem bd_le {x : Int} {n m : Nat} (h : Bd x n) (hm : n ≤ m) : Bd x m := ⟨h.up hm⟩
theorem normP_low {x y v : Int} (h : 0 < v) : 0 < v / g3 x y v ∧ (∀ a b : Int, lowT (a * (y / g3 x y v) - b * (x / g3 x y v)) (v / g3 x y v) = lowT (a * y - b * x) v) := by
  have e1 := div_g (g3_dvd (x := x) (y := y) (v := v)).1
  have e2 := div_g (g3_dvd (x := x) (y := y) (v := v)).2.1
  have e3 := div_g (g3_dvd (x := x) (y := y) (v := v)).2.2
  have p := g3_pos (x := x) (y := y) h
  have q : 0 < v / g3 x y v := by
    rcases Int.lt_or_le 0 (v / g3 x y v) with z | z
    · exact z
    · have : v / g3 x y v * g3 x y v ≤ 0 := Int.mul_nonpos_of_nonpos_of_nonneg z (by omega)
      omega
  refine ⟨q, fun a b => lowT_cross q h ?_⟩
  generalize x / g3 x y v = u at *
  generalize y / g3 x y v = w at *
  generalize v / g3 x y v = r at *
  generalize g3 x y v = g at *
  clear p q h
  grind
section
variable {W : Wd} {S : Sg}
theorem ok_law {f : Addr} {fd : FuncData} (F : Fd W.K "law" "law" s_law [] f fd) (hK : W.K = S.K) (T : Mb W) (TP : PtC W S) (f_nth : Fn W S 1 "_law_nth" 2 [] RNth) (f_draws : Fn W S 1 "_law_draws" 2 [] RDraws) (f_same : Fn W S 4 "_law_same" 2 [] (RSame 3))
    (f_lred : Fn W S 2 "_law_reduced" 2 [] RLRed) (f_number : Fn W S 1 "_law_draw_number" 2 [] RNum) (f_over : Fn W S 1 "_law_draw_over" 2 [] ROver) (f_pt : PtI W S 3 3 [] RPt) (f_drawslope : Fn W S 2 "_law_draw_slope" 2 [] RSlp)
    (f_ispair : Fn W S 2 "_law_is_pair" 1 [] RIsP) (f_valueat : Fn W S 4 "value_at" 2 [] RVal) (f_cellat : Fn W S 4 "cell_at" 3 [] RCell) (f_mate : Fn W S 5 "mate" 1 [] RMate) :
    FnOk W.P W.w W.K W.mg W.base (L2N.CX W.P W.w) 12 f fd ["_law_script"] (spOf S 1 RLaw) := by
  refine def_ok F hK s_law_sc (fun ds o h => by obtain ⟨_, _, rfl, _⟩ := h; rfl) fun X U ds o b h => ?_
  obtain ⟨ns, hn, rfl, rfl⟩ := h
  have C := b.C
  obtain ⟨n__law_script, l__law_script⟩ := b.nm 0 "_law_script" rfl (.inl rfl) (by decide) (by decide)
  obtain ⟨n__law_slope, l__law_slope⟩ := b.nm 1 "_law_slope" rfl (.inl rfl) (by decide) (by decide)
  obtain ⟨n__law_pool, l__law_pool⟩ := b.nm 2 "_law_pool" rfl (.inl rfl) (by decide) (by decide)
  obtain ⟨n__law_more, l__law_more⟩ := b.nm 3 "_law_more" rfl (.inl rfl) (by decide) (by decide)
  obtain ⟨n__law_a, l__law_a⟩ := b.nm 4 "_law_a" rfl (.inl rfl) (by decide) (by decide)
  obtain ⟨n__law_b, l__law_b⟩ := b.nm 5 "_law_b" rfl (.inl rfl) (by decide) (by decide)
  obtain ⟨n__law_size, l__law_size⟩ := b.nm 6 "_law_size" rfl (.inl rfl) (by decide) (by decide)
  obtain ⟨n__law_x, l__law_x⟩ := b.nm 7 "_law_x" rfl (.inl rfl) (by decide) (by decide)
  obtain ⟨n__law_y, l__law_y⟩ := b.nm 8 "_law_y" rfl (.inl rfl) (by decide) (by decide)
  obtain ⟨n__law_over, l__law_over⟩ := b.nm 9 "_law_over" rfl (.inl rfl) (by decide) (by decide)
  obtain ⟨n__law_one, l__law_one⟩ := b.nm 10 "_law_one" rfl (.inl rfl) (by decide) (by decide)
  obtain ⟨n__law_level, l__law_level⟩ := b.nm 11 "_law_level" rfl (.inl rfl) (by decide) (by decide)
  obtain ⟨n__law_step, l__law_step⟩ := b.nm 12 "_law_step" rfl (.inl rfl) (by decide) (by decide)
  obtain ⟨n__law_cell, l__law_cell⟩ := b.nm 13 "_law_cell" rfl (.inl rfl) (by decide) (by decide)
  have g__law_draw_slope := b.ng "_law_draw_slope" rfl (by decide)
  have g__law_draws := b.ng "_law_draws" rfl (by decide)
  have g__law_nth := b.ng "_law_nth" rfl (by decide)
  have g__law_draw_number := b.ng "_law_draw_number" rfl (by decide)
  have g__law_draw_over := b.ng "_law_draw_over" rfl (by decide)
  have g__law_same := b.ng "_law_same" rfl (by decide)
  have g_value_at := b.ng "value_at" rfl (by decide)
  have g_Point := b.ng "Point" rfl (by decide)
  have g__law_reduced := b.ng "_law_reduced" rfl (by decide)
  have g_mate := b.ng "mate" rfl (by decide)
  have g__law_is_pair := b.ng "_law_is_pair" rfl (by decide)
  have g_cell_at := b.ng "cell_at" rfl (by decide)
  change XB _ _ _ [.v (.lst (ns.map D.int)), .no, .no, .no, .no, .no, .no, .no, .no, .no, .no, .no, .no, .no] _ _
  generalize hL : drawsOf (ns.getD (Int.toNat 0) 0) (Int.toNat 24) = L
  have hp : pool L := by rw [← hL]; exact drawsOf_in
  have hl : L.length = 24 := by rw [← hL]; exact drawsOf_len
  refine' s_cons (s_asg C.toKb l__law_slope (d := slopeT (slOf L 0).1 (slOf L 0).2) ?x1 ?k1)
  case x1 =>
    rw [← hL]
    rw [← hL] at hp hl
    walk_at "ex"
  dsimp only [List.set_cons_succ, List.set_cons_zero]
  obtain ⟨hg, ba, bb⟩ := slOf_law (i := 0) hp
  generalize (slOf L 0).1 = a at hg ba ⊢
  generalize (slOf L 0).2 = b' at hg bb ⊢
  walk_at "asg"
  generalize hL2 : drawsOf (ns.getD (Int.toNat 1) 0) (Int.toNat 26) = L2
  have hp2 : pool L2 := by rw [← hL2]; exact drawsOf_in
  have hl2 : L2.length = 26 := by rw [← hL2]; exact drawsOf_len
  walk_at "asg"
  generalize hL3 : drawsOf (ns.getD (Int.toNat 2) 0) (Int.toNat 24) = L3
  have hp3 : pool L3 := by rw [← hL3]; exact drawsOf_in
  have hl3 : L3.length = 24 := by rw [← hL3]; exact drawsOf_len
  walk_at "asg"
  walk_at "asg"
  walk_at "asg"
  have hs := size_pos hg
  have bx := numL_bd (a := 0) hp2
  have by' := numL_bd (a := 12) hp2
  walk_at "asg"
  walk_at "asg"
  generalize numL L2 0 = x at bx ⊢
  generalize numL L2 12 = y at by' ⊢
  walk_at "asg"
  have bo := overL_in (a := 24) hp2
  generalize overL L2 24 = over at bo ⊢
  have ho : 0 < over := bo.1
  haveI b1 : Bd over 10 := ⟨by omega⟩
  obtain ⟨ho2, ev⟩ := normP_low (x := x) (y := y) ho
  have ev2 := ev a b'
  walk_at "ifF"
  walk_at "asg"
  have c1 := cell_val (l := 1) (s := 0) hg
  have c2 := cell_pos (l := 1) (s := 0) hg
  obtain ⟨c3, c4⟩ := cell_bd (l := 1) (s := 0) (bd_le ba (by decide)) (bd_le bb (by decide)) ⟨by decide⟩ ⟨by decide⟩
  generalize (cellOf a b' 1 0).1 = p at c1 c2 c3 ⊢
  generalize (cellOf a b' 1 0).2 = q at c1 c2 c4 ⊢
  have z1 : (!true || !decide (a * q - b' * p = 1)) = false := by rw [c1]; rfl
  walk_at "ifF"
  rw [Int.zero_mul, Int.zero_add, Int.one_mul] at c2
  have z2 : (!(decide (0 ≤ a * p + b' * q) && decide (a * p + b' * q < a * a + b' * b'))) = false := by
    rw [decide_eq_true c2.1, decide_eq_true c2.2]
    rfl
  walk_at "ifF"
  have b2 := numL_bd (a := 0) hp3
  have b3 := numL_bd (a := 12) hp3
  walk_at "asg"
  walk_at "asg"
  generalize numL L3 0 = l at b2 ⊢
  generalize numL L3 12 = s at b3 ⊢
  walk_at "asg"
  have d1 := cell_val (l := l) (s := s) hg
  have d2 := cell_pos (l := l) (s := s) hg
  obtain ⟨d3, d4⟩ := cell_bd (l := l) (s := s) (bd_le ba (by decide)) (bd_le bb (by decide)) (bd_le b2 (by decide)) (bd_le b3 (by decide))
  have d5 : slopeT (cellOf a b' l (s + 1)).1 (cellOf a b' l (s + 1)).2 = slopeT ((cellOf a b' l s).1 + a) ((cellOf a b' l s).2 + b') := by rw [cell_next]
  generalize (cellOf a b' l s).1 = u at d1 d2 d3 d5 ⊢
  generalize (cellOf a b' l s).2 = v at d1 d2 d4 d5 ⊢
  have z3 : (!true || !decide (a * v - b' * u = l)) = false := by rw [d1]; simp
  walk_at "ifF"
  have z4 : (!(decide (s * (a * a + b' * b') ≤ a * u + b' * v) && decide (a * u + b' * v < (s + 1) * (a * a + b' * b')))) = false := by
    rw [decide_eq_true d2.1, decide_eq_true d2.2]
    rfl
  walk_at "ifF"
  walk_at "ifF"
  have e0 : slopeT (cellOf a b' (a * y - b' * x) ((a * x + b' * y) / (a * a + b' * b'))).1 (cellOf a b' (a * y - b' * x) ((a * x + b' * y) / (a * a + b' * b'))).2 = slopeT x y := by
    have e1 := cell_val (l := a * y - b' * x) (s := (a * x + b' * y) / (a * a + b' * b')) hg
    have e2 := cell_pos (l := a * y - b' * x) (s := (a * x + b' * y) / (a * a + b' * b')) hg
    have m1 := Int.mul_ediv_add_emod (a * x + b' * y) (a * a + b' * b')
    have m2 := Int.emod_nonneg (a * x + b' * y) (show a * a + b' * b' ≠ 0 by omega)
    have m3 := Int.emod_lt_of_pos (a * x + b' * y) hs
    rw [Int.mul_comm] at m1
    obtain ⟨r1, r2⟩ := cell_uniq hg e1 e2 ⟨by omega, by rw [Int.add_mul, Int.one_mul]; omega⟩
    rw [r1, r2]
  walk_at "ret"
  rfl
end

abbrev s_BadOver_init : Stmt := inClass (topS 3) 0
theorem s_BadOver_init_sc : FnScope ["self", "over"] ["self", "over"] (defScope s_BadOver_init) := ⟨rfl, rfl, rfl, by decide +kernel, rfl, by decide +kernel, by decide +kernel⟩
abbrev s_BadSlope_init : Stmt := inClass (topS 4) 0
theorem s_BadSlope_init_sc : FnScope ["self", "a", "b"] ["self", "a", "b"] (defScope s_BadSlope_init) := ⟨rfl, rfl, rfl, by decide +kernel, rfl, by decide +kernel, by decide +kernel⟩
abbrev s_BadText_init : Stmt := inClass (topS 5) 0
theorem s_BadText_init_sc : FnScope ["self", "at"] ["self", "at"] (defScope s_BadText_init) := ⟨rfl, rfl, rfl, by decide +kernel, rfl, by decide +kernel, by decide +kernel⟩
theorem all_mk {l : PySem.W.OpenLaw} {w : World} {K : PySem.W.Frag} {h : Heap} {mg : Str → Option Value} {fa : Addr} (X : K.In h) (G : h.Ns mainGlobals mg) (hfa : mg "law" = some (.ref fa))
    {C pX pY pO : Addr} {iX iY iO : Nat} {e_BadOver N_BadOver : Addr} {nm_BadOver q_BadOver : Str} {bs_BadOver : List Value} {sn_BadOver : List Str} {sub_BadOver : List Value} {ab_BadOver : Bool} {col_BadOver : Option Bool}
    {dd_BadOver : Option Addr} {m0_BadOver m1_BadOver m2_BadOver m3_BadOver m4_BadOver : Option Value} {bm_BadOver : List Value} {A_iBadOver : Addr} {od_iBadOver an_iBadOver : Option Addr} {sl_iBadOver : Array (Option Value)}
    {oc_iBadOver kV_iBadOver dc_iBadOver pm_iBadOver cd_iBadOver ct_iBadOver : Value} {e_BadSlope N_BadSlope : Addr} {nm_BadSlope q_BadSlope : Str} {bs_BadSlope : List Value} {sn_BadSlope : List Str} {sub_BadSlope : List Value}
    {ab_BadSlope : Bool} {col_BadSlope : Option Bool} {dd_BadSlope : Option Addr} {m0_BadSlope m1_BadSlope m2_BadSlope m3_BadSlope m4_BadSlope : Option Value} {bm_BadSlope : List Value} {A_iBadSlope : Addr}
    {od_iBadSlope an_iBadSlope : Option Addr} {sl_iBadSlope : Array (Option Value)} {oc_iBadSlope kV_iBadSlope dc_iBadSlope pm_iBadSlope cd_iBadSlope ct_iBadSlope : Value} {A_gcd : Addr} {od_gcd an_gcd : Option Addr}
    {sl_gcd : Array (Option Value)} {oc_gcd kV_gcd dc_gcd pm_gcd cd_gcd ct_gcd : Value} {A_red : Addr} {od_red an_red : Option Addr} {sl_red : Array (Option Value)} {oc_red kV_red dc_red pm_red cd_red ct_red : Value}
    {A_pinit : Addr} {od_pinit an_pinit : Option Addr} {sl_pinit : Array (Option Value)} {oc_pinit kV_pinit dc_pinit pm_pinit cd_pinit ct_pinit : Value} {T_pinit : Addr} {td_pinit : Option Addr} {tl_pinit : Array (Option Value)}
    {tc_pinit : Value} {tn_pinit : Nat} {tk0_pinit : Tok} {A_checkslope : Addr} {od_checkslope an_checkslope : Option Addr} {sl_checkslope : Array (Option Value)} {oc_checkslope kV_checkslope dc_checkslope pm_checkslope cd_checkslope ct_checkslope : Value}
    {A_valueat : Addr} {od_valueat an_valueat : Option Addr} {sl_valueat : Array (Option Value)} {oc_valueat kV_valueat dc_valueat pm_valueat cd_valueat ct_valueat : Value} {A_comb : Addr} {od_comb an_comb : Option Addr}
    {sl_comb : Array (Option Value)} {oc_comb kV_comb dc_comb pm_comb cd_comb ct_comb : Value} {A_cellat : Addr} {od_cellat an_cellat : Option Addr} {sl_cellat : Array (Option Value)} {oc_cellat kV_cellat dc_cellat pm_cellat cd_cellat ct_cellat : Value}
    {A_mate : Addr} {od_mate an_mate : Option Addr} {sl_mate : Array (Option Value)} {oc_mate kV_mate dc_mate pm_mate cd_mate ct_mate : Value} {A_nth : Addr} {od_nth an_nth : Option Addr} {sl_nth : Array (Option Value)}
    {oc_nth kV_nth dc_nth pm_nth cd_nth ct_nth : Value} {A_draws : Addr} {od_draws an_draws : Option Addr} {sl_draws : Array (Option Value)} {oc_draws kV_draws dc_draws pm_draws cd_draws ct_draws : Value}
    {A_same : Addr} {od_same an_same : Option Addr} {sl_same : Array (Option Value)} {oc_same kV_same dc_same pm_same cd_same ct_same : Value} {A_lgcd : Addr} {od_lgcd an_lgcd : Option Addr} {sl_lgcd : Array (Option Value)}
    {oc_lgcd kV_lgcd dc_lgcd pm_lgcd cd_lgcd ct_lgcd : Value} {A_lred : Addr} {od_lred an_lred : Option Addr} {sl_lred : Array (Option Value)} {oc_lred kV_lred dc_lred pm_lred cd_lred ct_lred : Value} {A_number : Addr}
    {od_number an_number : Option Addr} {sl_number : Array (Option Value)} {oc_number kV_number dc_number pm_number cd_number ct_number : Value} {A_over : Addr} {od_over an_over : Option Addr} {sl_over : Array (Option Value)}
    {oc_over kV_over dc_over pm_over cd_over ct_over : Value} {A_isint : Addr} {od_isint an_isint : Option Addr} {sl_isint : Array (Option Value)} {oc_isint kV_isint dc_isint pm_isint cd_isint ct_isint : Value}
    {A_ispair : Addr} {od_ispair an_ispair : Option Addr} {sl_ispair : Array (Option Value)} {oc_ispair kV_ispair dc_ispair pm_ispair cd_ispair ct_ispair : Value} {A_drawslope : Addr} {od_drawslope an_drawslope : Option Addr}
    {sl_drawslope : Array (Option Value)} {oc_drawslope kV_drawslope dc_drawslope pm_drawslope cd_drawslope ct_drawslope : Value} {A_law : Addr} {od_law an_law : Option Addr} {sl_law : Array (Option Value)}
    {oc_law kV_law dc_law pm_law cd_law ct_law : Value}
    (z_abs : PySem.W.nsIn K mainGlobals "abs" = some none)
    (z_int : PySem.W.nsIn K mainGlobals "int" = some none)
    (z_len : PySem.W.nsIn K mainGlobals "len" = some none)
    (z_range : PySem.W.nsIn K mainGlobals "range" = some none)
    (z_isinstance : PySem.W.nsIn K mainGlobals "isinstance" = some none)
    (z_bool : PySem.W.nsIn K mainGlobals "bool" = some none)
    (z_str : PySem.W.nsIn K mainGlobals "str" = some none)
    (z_tuple : PySem.W.nsIn K mainGlobals "tuple" = some none)
    (z_list : PySem.W.nsIn K mainGlobals "list" = some none)
    (z_max : PySem.W.nsIn K mainGlobals "max" = some none)
    (z_min : PySem.W.nsIn K mainGlobals "min" = some none)
    (z_enumerate : PySem.W.nsIn K mainGlobals "enumerate" = some none)
    (z_sorted : PySem.W.nsIn K mainGlobals "sorted" = some none)
    (z_set : PySem.W.nsIn K mainGlobals "set" = some none)
    (z_sum : PySem.W.nsIn K mainGlobals "sum" = some none)
    (z_all : PySem.W.nsIn K mainGlobals "all" = some none)
    (z_any : PySem.W.nsIn K mainGlobals "any" = some none)
    (z_zip : PySem.W.nsIn K mainGlobals "zip" = some none)
    (z_iter : PySem.W.nsIn K mainGlobals "iter" = some none)
    (z_next : PySem.W.nsIn K mainGlobals "next" = some none)
    (z_valueerror : PySem.W.nsIn K mainGlobals "ValueError" = some none)
    (cn : PySem.W.specialIn K (.builtin "object.__class__") "__get__" = some (some (.builtin "getset_descriptor.__get__")))
    (ctk : PySem.W.takesIn K (.builtin "object.__class__") = some true)
    (a_Point : PySem.W.nsIn K mainGlobals "Point" = some (some (.ref C)))
    (pg : PySem.W.plainGet K C Str.empty = true)
    (ic : PySem.W.isClsIn K C = true)
    (po : PySem.W.plainOver K C = true)
    (tyP : PySem.W.typeIn K (.ref C) = some (.type "type"))
    (saP : PySem.W.findIn K (.ref C) "__setattr__" = some (some (.builtin "object.__setattr__")))
    (caP : PySem.W.findIn K (.ref C) "__class__" = some (some (.builtin "object.__class__")))
    (moP : PySem.W.mroIn K C (.type "object") = some true)
    (sAX : PySem.W.findIn K (.ref C) "x" = some (some (.ref pX)))
    (sGX : PySem.W.specialIn K (.ref pX) "__get__" = some (some (.builtin "member_descriptor.__get__")))
    (sTX : PySem.W.takesIn K (.ref pX) = some true)
    (sYX : PySem.W.typeIn K (.ref pX) = some (.type "member_descriptor"))
    (sIX : PySem.W.slotIn K pX C = some iX)
    (sLX : iX < 1000)
    (sAY : PySem.W.findIn K (.ref C) "y" = some (some (.ref pY)))
    (sGY : PySem.W.specialIn K (.ref pY) "__get__" = some (some (.builtin "member_descriptor.__get__")))
    (sTY : PySem.W.takesIn K (.ref pY) = some true)
    (sYY : PySem.W.typeIn K (.ref pY) = some (.type "member_descriptor"))
    (sIY : PySem.W.slotIn K pY C = some iY)
    (sLY : iY < 1000)
    (sAO : PySem.W.findIn K (.ref C) "over" = some (some (.ref pO)))
    (sGO : PySem.W.specialIn K (.ref pO) "__get__" = some (some (.builtin "member_descriptor.__get__")))
    (sTO : PySem.W.takesIn K (.ref pO) = some true)
    (sYO : PySem.W.typeIn K (.ref pO) = some (.type "member_descriptor"))
    (sIO : PySem.W.slotIn K pO C = some iO)
    (sLO : iO < 1000)
    (nXY : iX ≠ iY)
    (nXO : iX ≠ iO)
    (nYO : iY ≠ iO)
    (a_BadOver : PySem.W.nsIn K mainGlobals "BadOver" = some (some (.ref e_BadOver)))
    (x_BadOver : K.lookup e_BadOver = some (excClassObj nm_BadOver q_BadOver e_BadOver N_BadOver bs_BadOver bm_BadOver true sn_BadOver sub_BadOver ab_BadOver col_BadOver dd_BadOver m0_BadOver m1_BadOver m2_BadOver m3_BadOver m4_BadOver "ValueError.__new__"))
    (r_BadOver : PySem.HandSPX.refsVE bm_BadOver = true)
    (sa_BadOver : PySem.W.findIn K (.ref e_BadOver) "__setattr__" = some (some (.builtin "object.__setattr__")))
    (ga_BadOver : PySem.W.findIn K (.ref e_BadOver) "__getattribute__" = some (some (.builtin "BaseException.__getattribute__")))
    (gg_BadOver : PySem.W.findIn K (.ref e_BadOver) "__getattr__" = some none)
    (ca_BadOver : PySem.W.findIn K (.ref e_BadOver) "__class__" = some (some (.builtin "object.__class__")))
    (sx_BadOver : PySem.W.subIn K (.ref e_BadOver) (.type "BaseException") = some true)
    (ty_BadOver : PySem.W.typeIn K (.ref e_BadOver) = some (.type "type"))
    (kc_BadOver : PySem.W.keepIn K (.ref e_BadOver) = true)
    (hd_BadOver : PySem.W.hasDictIn K e_BadOver = true)
    (ic_BadOver : PySem.W.isClsIn K e_BadOver = true)
    (ss_BadOver : PySem.W.subIn K (.ref e_BadOver) (.ref e_BadOver) = some true)
    (mo_BadOver : PySem.W.mroIn K e_BadOver (.type "object") = some true)
    (nf_BadOver_over : PySem.W.findIn K (.ref e_BadOver) "over" = some none)
    (a_iBadOver : PySem.W.findIn K (.ref e_BadOver) "__init__" = some (some (.ref A_iBadOver)))
    (tf_iBadOver : PySem.W.typeIn K (.ref A_iBadOver) = some (.type "function"))
    (l_iBadOver : K.lookup A_iBadOver = some ⟨oc_iBadOver, od_iBadOver, .func (PySem.W.fnOf "__init__" "BadOver.__init__" (defArgs s_BadOver_init) (defBody s_BadOver_init) (defScope s_BadOver_init) .none kV_iBadOver dc_iBadOver pm_iBadOver an_iBadOver cd_iBadOver ct_iBadOver), sl_iBadOver⟩)
    (c_iBadOver : PySem.W.codeIn K cd_iBadOver "BadOver.__init__" = true)
    (k_iBadOver : PySem.W.keepIn K (.ref A_iBadOver) = true)
    (a_BadSlope : PySem.W.nsIn K mainGlobals "BadSlope" = some (some (.ref e_BadSlope)))
    (x_BadSlope : K.lookup e_BadSlope = some (excClassObj nm_BadSlope q_BadSlope e_BadSlope N_BadSlope bs_BadSlope bm_BadSlope true sn_BadSlope sub_BadSlope ab_BadSlope col_BadSlope dd_BadSlope m0_BadSlope m1_BadSlope m2_BadSlope m3_BadSlope m4_BadSlope "ValueError.__new__"))
    (r_BadSlope : PySem.HandSPX.refsVE bm_BadSlope = true)
    (sa_BadSlope : PySem.W.findIn K (.ref e_BadSlope) "__setattr__" = some (some (.builtin "object.__setattr__")))
    (ga_BadSlope : PySem.W.findIn K (.ref e_BadSlope) "__getattribute__" = some (some (.builtin "BaseException.__getattribute__")))
    (gg_BadSlope : PySem.W.findIn K (.ref e_BadSlope) "__getattr__" = some none)
    (ca_BadSlope : PySem.W.findIn K (.ref e_BadSlope) "__class__" = some (some (.builtin "object.__class__")))
    (sx_BadSlope : PySem.W.subIn K (.ref e_BadSlope) (.type "BaseException") = some true)
    (ty_BadSlope : PySem.W.typeIn K (.ref e_BadSlope) = some (.type "type"))
    (kc_BadSlope : PySem.W.keepIn K (.ref e_BadSlope) = true)
    (hd_BadSlope : PySem.W.hasDictIn K e_BadSlope = true)
    (ic_BadSlope : PySem.W.isClsIn K e_BadSlope = true)
    (ss_BadSlope : PySem.W.subIn K (.ref e_BadSlope) (.ref e_BadSlope) = some true)
    (mo_BadSlope : PySem.W.mroIn K e_BadSlope (.type "object") = some true)
    (nf_BadSlope_a : PySem.W.findIn K (.ref e_BadSlope) "a" = some none)
    (nf_BadSlope_b : PySem.W.findIn K (.ref e_BadSlope) "b" = some none)
    (a_iBadSlope : PySem.W.findIn K (.ref e_BadSlope) "__init__" = some (some (.ref A_iBadSlope)))
    (tf_iBadSlope : PySem.W.typeIn K (.ref A_iBadSlope) = some (.type "function"))
    (l_iBadSlope : K.lookup A_iBadSlope = some ⟨oc_iBadSlope, od_iBadSlope, .func (PySem.W.fnOf "__init__" "BadSlope.__init__" (defArgs s_BadSlope_init) (defBody s_BadSlope_init) (defScope s_BadSlope_init) .none kV_iBadSlope dc_iBadSlope pm_iBadSlope an_iBadSlope cd_iBadSlope ct_iBadSlope), sl_iBadSlope⟩)
    (c_iBadSlope : PySem.W.codeIn K cd_iBadSlope "BadSlope.__init__" = true)
    (k_iBadSlope : PySem.W.keepIn K (.ref A_iBadSlope) = true)
    (a_gcd : PySem.W.nsIn K mainGlobals "common_divisor" = some (some (.ref A_gcd)))
    (l_gcd : K.lookup A_gcd = some ⟨oc_gcd, od_gcd, .func (PySem.W.fnOf "common_divisor" "common_divisor" (defArgs s_common_divisor) (defBody s_common_divisor) (defScope s_common_divisor) .none kV_gcd dc_gcd pm_gcd an_gcd cd_gcd ct_gcd), sl_gcd⟩)
    (c_gcd : PySem.W.codeIn K cd_gcd "common_divisor" = true)
    (k_gcd : PySem.W.keepIn K (.ref A_gcd) = true)
    (a_red : PySem.W.nsIn K mainGlobals "reduced" = some (some (.ref A_red)))
    (l_red : K.lookup A_red = some ⟨oc_red, od_red, .func (PySem.W.fnOf "reduced" "reduced" (defArgs s_reduced) (defBody s_reduced) (defScope s_reduced) .none kV_red dc_red pm_red an_red cd_red ct_red), sl_red⟩)
    (c_red : PySem.W.codeIn K cd_red "reduced" = true)
    (k_red : PySem.W.keepIn K (.ref A_red) = true)
    (a_pinit : PySem.W.findIn K (.ref C) "__init__" = some (some (.ref A_pinit)))
    (i_pinit : PySem.W.isFn K (.ref A_pinit) = true)
    (mkP : PySem.W.makesIn K C = true)
    (kcP : PySem.W.keepIn K (.ref C) = true)
    (l_pinit : K.lookup A_pinit = some ⟨oc_pinit, od_pinit, .func (PySem.W.fnOf "__init__" "Point.__init__" (defArgs s_Point_init) (defBody s_Point_init) (defScope s_Point_init) (.ref T_pinit) kV_pinit dc_pinit pm_pinit an_pinit cd_pinit ct_pinit), sl_pinit⟩)
    (c_pinit : PySem.W.codeIn K cd_pinit "Point.__init__" = true)
    (k_pinit : PySem.W.keepIn K (.ref A_pinit) = true)
    (t_pinit : K.lookup T_pinit = some ⟨tc_pinit, td_pinit, .seq ([Value.int 1 tk0_pinit] : List Value).toArray tn_pinit, tl_pinit⟩)
    (a_checkslope : PySem.W.nsIn K mainGlobals "check_slope" = some (some (.ref A_checkslope)))
    (l_checkslope : K.lookup A_checkslope = some ⟨oc_checkslope, od_checkslope, .func (PySem.W.fnOf "check_slope" "check_slope" (defArgs s_check_slope) (defBody s_check_slope) (defScope s_check_slope) .none kV_checkslope dc_checkslope pm_checkslope an_checkslope cd_checkslope ct_checkslope), sl_checkslope⟩)
    (c_checkslope : PySem.W.codeIn K cd_checkslope "check_slope" = true)
    (k_checkslope : PySem.W.keepIn K (.ref A_checkslope) = true)
    (a_valueat : PySem.W.nsIn K mainGlobals "value_at" = some (some (.ref A_valueat)))
    (l_valueat : K.lookup A_valueat = some ⟨oc_valueat, od_valueat, .func (PySem.W.fnOf "value_at" "value_at" (defArgs s_value_at) (defBody s_value_at) (defScope s_value_at) .none kV_valueat dc_valueat pm_valueat an_valueat cd_valueat ct_valueat), sl_valueat⟩)
    (c_valueat : PySem.W.codeIn K cd_valueat "value_at" = true)
    (k_valueat : PySem.W.keepIn K (.ref A_valueat) = true)
    (a_comb : PySem.W.nsIn K mainGlobals "combination" = some (some (.ref A_comb)))
    (l_comb : K.lookup A_comb = some ⟨oc_comb, od_comb, .func (PySem.W.fnOf "combination" "combination" (defArgs s_combination) (defBody s_combination) (defScope s_combination) .none kV_comb dc_comb pm_comb an_comb cd_comb ct_comb), sl_comb⟩)
    (c_comb : PySem.W.codeIn K cd_comb "combination" = true)
    (k_comb : PySem.W.keepIn K (.ref A_comb) = true)
    (a_cellat : PySem.W.nsIn K mainGlobals "cell_at" = some (some (.ref A_cellat)))
    (l_cellat : K.lookup A_cellat = some ⟨oc_cellat, od_cellat, .func (PySem.W.fnOf "cell_at" "cell_at" (defArgs s_cell_at) (defBody s_cell_at) (defScope s_cell_at) .none kV_cellat dc_cellat pm_cellat an_cellat cd_cellat ct_cellat), sl_cellat⟩)
    (c_cellat : PySem.W.codeIn K cd_cellat "cell_at" = true)
    (k_cellat : PySem.W.keepIn K (.ref A_cellat) = true)
    (a_mate : PySem.W.nsIn K mainGlobals "mate" = some (some (.ref A_mate)))
    (l_mate : K.lookup A_mate = some ⟨oc_mate, od_mate, .func (PySem.W.fnOf "mate" "mate" (defArgs s_mate) (defBody s_mate) (defScope s_mate) .none kV_mate dc_mate pm_mate an_mate cd_mate ct_mate), sl_mate⟩)
    (c_mate : PySem.W.codeIn K cd_mate "mate" = true)
    (k_mate : PySem.W.keepIn K (.ref A_mate) = true)
    (a_nth : PySem.W.nsIn K mainGlobals "_law_nth" = some (some (.ref A_nth)))
    (l_nth : K.lookup A_nth = some ⟨oc_nth, od_nth, .func (PySem.W.fnOf "_law_nth" "_law_nth" (defArgs s_law_nth) (defBody s_law_nth) (defScope s_law_nth) .none kV_nth dc_nth pm_nth an_nth cd_nth ct_nth), sl_nth⟩)
    (c_nth : PySem.W.codeIn K cd_nth "_law_nth" = true)
    (k_nth : PySem.W.keepIn K (.ref A_nth) = true)
    (a_draws : PySem.W.nsIn K mainGlobals "_law_draws" = some (some (.ref A_draws)))
    (l_draws : K.lookup A_draws = some ⟨oc_draws, od_draws, .func (PySem.W.fnOf "_law_draws" "_law_draws" (defArgs s_law_draws) (defBody s_law_draws) (defScope s_law_draws) .none kV_draws dc_draws pm_draws an_draws cd_draws ct_draws), sl_draws⟩)
    (c_draws : PySem.W.codeIn K cd_draws "_law_draws" = true)
    (k_draws : PySem.W.keepIn K (.ref A_draws) = true)
    (a_same : PySem.W.nsIn K mainGlobals "_law_same" = some (some (.ref A_same)))
    (l_same : K.lookup A_same = some ⟨oc_same, od_same, .func (PySem.W.fnOf "_law_same" "_law_same" (defArgs s_law_same) (defBody s_law_same) (defScope s_law_same) .none kV_same dc_same pm_same an_same cd_same ct_same), sl_same⟩)
    (c_same : PySem.W.codeIn K cd_same "_law_same" = true)
    (k_same : PySem.W.keepIn K (.ref A_same) = true)
    (a_lgcd : PySem.W.nsIn K mainGlobals "_law_gcd" = some (some (.ref A_lgcd)))
    (l_lgcd : K.lookup A_lgcd = some ⟨oc_lgcd, od_lgcd, .func (PySem.W.fnOf "_law_gcd" "_law_gcd" (defArgs s_law_gcd) (defBody s_law_gcd) (defScope s_law_gcd) .none kV_lgcd dc_lgcd pm_lgcd an_lgcd cd_lgcd ct_lgcd), sl_lgcd⟩)
    (c_lgcd : PySem.W.codeIn K cd_lgcd "_law_gcd" = true)
    (k_lgcd : PySem.W.keepIn K (.ref A_lgcd) = true)
    (a_lred : PySem.W.nsIn K mainGlobals "_law_reduced" = some (some (.ref A_lred)))
    (l_lred : K.lookup A_lred = some ⟨oc_lred, od_lred, .func (PySem.W.fnOf "_law_reduced" "_law_reduced" (defArgs s_law_reduced) (defBody s_law_reduced) (defScope s_law_reduced) .none kV_lred dc_lred pm_lred an_lred cd_lred ct_lred), sl_lred⟩)
    (c_lred : PySem.W.codeIn K cd_lred "_law_reduced" = true)
    (k_lred : PySem.W.keepIn K (.ref A_lred) = true)
    (a_number : PySem.W.nsIn K mainGlobals "_law_draw_number" = some (some (.ref A_number)))
    (l_number : K.lookup A_number = some ⟨oc_number, od_number, .func (PySem.W.fnOf "_law_draw_number" "_law_draw_number" (defArgs s_law_draw_number) (defBody s_law_draw_number) (defScope s_law_draw_number) .none kV_number dc_number pm_number an_number cd_number ct_number), sl_number⟩)
    (c_number : PySem.W.codeIn K cd_number "_law_draw_number" = true)
    (k_number : PySem.W.keepIn K (.ref A_number) = true)
    (a_over : PySem.W.nsIn K mainGlobals "_law_draw_over" = some (some (.ref A_over)))
    (l_over : K.lookup A_over = some ⟨oc_over, od_over, .func (PySem.W.fnOf "_law_draw_over" "_law_draw_over" (defArgs s_law_draw_over) (defBody s_law_draw_over) (defScope s_law_draw_over) .none kV_over dc_over pm_over an_over cd_over ct_over), sl_over⟩)
    (c_over : PySem.W.codeIn K cd_over "_law_draw_over" = true)
    (k_over : PySem.W.keepIn K (.ref A_over) = true)
    (a_isint : PySem.W.nsIn K mainGlobals "_law_is_integer" = some (some (.ref A_isint)))
    (l_isint : K.lookup A_isint = some ⟨oc_isint, od_isint, .func (PySem.W.fnOf "_law_is_integer" "_law_is_integer" (defArgs s_law_is_integer) (defBody s_law_is_integer) (defScope s_law_is_integer) .none kV_isint dc_isint pm_isint an_isint cd_isint ct_isint), sl_isint⟩)
    (c_isint : PySem.W.codeIn K cd_isint "_law_is_integer" = true)
    (k_isint : PySem.W.keepIn K (.ref A_isint) = true)
    (a_ispair : PySem.W.nsIn K mainGlobals "_law_is_pair" = some (some (.ref A_ispair)))
    (l_ispair : K.lookup A_ispair = some ⟨oc_ispair, od_ispair, .func (PySem.W.fnOf "_law_is_pair" "_law_is_pair" (defArgs s_law_is_pair) (defBody s_law_is_pair) (defScope s_law_is_pair) .none kV_ispair dc_ispair pm_ispair an_ispair cd_ispair ct_ispair), sl_ispair⟩)
    (c_ispair : PySem.W.codeIn K cd_ispair "_law_is_pair" = true)
    (k_ispair : PySem.W.keepIn K (.ref A_ispair) = true)
    (a_drawslope : PySem.W.nsIn K mainGlobals "_law_draw_slope" = some (some (.ref A_drawslope)))
    (l_drawslope : K.lookup A_drawslope = some ⟨oc_drawslope, od_drawslope, .func (PySem.W.fnOf "_law_draw_slope" "_law_draw_slope" (defArgs s_law_draw_slope) (defBody s_law_draw_slope) (defScope s_law_draw_slope) .none kV_drawslope dc_drawslope pm_drawslope an_drawslope cd_drawslope ct_drawslope), sl_drawslope⟩)
    (c_drawslope : PySem.W.codeIn K cd_drawslope "_law_draw_slope" = true)
    (k_drawslope : PySem.W.keepIn K (.ref A_drawslope) = true)
    (a_law : PySem.W.nsIn K mainGlobals "law" = some (some (.ref A_law)))
    (l_law : K.lookup A_law = some ⟨oc_law, od_law, .func (PySem.W.fnOf "law" "law" (defArgs s_law) (defBody s_law) (defScope s_law) .none kV_law dc_law pm_law an_law cd_law ct_law), sl_law⟩)
    (c_law : PySem.W.codeIn K cd_law "law" = true)
    (k_law : PySem.W.keepIn K (.ref A_law) = true)
    : ∃ fd : FuncData, (∀ (s : Shared) (u : Value), BindsTo s fd ⟨[u], []⟩ [("_law_script", u)]) ∧ ∀ base : Heap, K.In base → base.Ns mainGlobals mg → FnOk l.prog w K mg base (L2N.CX l.prog w) 12 fa fd ["_law_script"] (spLaw K) := by
  have e := hfa.symm.trans (PySem.W.mg_of X G a_law)
  cases e
  have g_Point := PySem.W.mg_of X G a_Point
  have g_BadOver := PySem.W.mg_of X G a_BadOver
  have ox_BadOver : OexC K e_BadOver := ⟨⟨nm_BadOver, q_BadOver, N_BadOver, bs_BadOver, bm_BadOver, sn_BadOver, sub_BadOver, ab_BadOver, col_BadOver, dd_BadOver, m0_BadOver, m1_BadOver, m2_BadOver, m3_BadOver, m4_BadOver, x_BadOver, r_BadOver⟩, sa_BadOver, sx_BadOver, ty_BadOver, kc_BadOver⟩
  have F_iBadOver := fd_mk (st := s_BadOver_init) l_iBadOver c_iBadOver k_iBadOver
  have b_iBadOver := F_iBadOver.bindsN (ps := ["self", "over"]) fun _ _ _ _ _ _ us hl => match us, hl with | [_, _], _ => rfl
  have g_BadSlope := PySem.W.mg_of X G a_BadSlope
  have ox_BadSlope : OexC K e_BadSlope := ⟨⟨nm_BadSlope, q_BadSlope, N_BadSlope, bs_BadSlope, bm_BadSlope, sn_BadSlope, sub_BadSlope, ab_BadSlope, col_BadSlope, dd_BadSlope, m0_BadSlope, m1_BadSlope, m2_BadSlope, m3_BadSlope, m4_BadSlope, x_BadSlope, r_BadSlope⟩, sa_BadSlope, sx_BadSlope, ty_BadSlope, kc_BadSlope⟩
  have F_iBadSlope := fd_mk (st := s_BadSlope_init) l_iBadSlope c_iBadSlope k_iBadSlope
  have b_iBadSlope := F_iBadSlope.bindsN (ps := ["self", "a", "b"]) fun _ _ _ _ _ _ us hl => match us, hl with | [_, _, _], _ => rfl
  have F_gcd := fd_mk (st := s_common_divisor) l_gcd c_gcd k_gcd
  have b_gcd := F_gcd.bindsN (ps := ["one", "two"]) fun _ _ _ _ _ _ us hl => match us, hl with | [_, _], _ => rfl
  have g_gcd := PySem.W.mg_of X G a_gcd
  have F_red := fd_mk (st := s_reduced) l_red c_red k_red
  have b_red := F_red.bindsN (ps := ["n", "d"]) fun _ _ _ _ _ _ us hl => match us, hl with | [_, _], _ => rfl
  have g_red := PySem.W.mg_of X G a_red
  have F_pinit := fd_mkD (st := s_Point_init) (dvs := [V.int 1]) l_pinit t_pinit (.cons (⟨tk0_pinit, rfl⟩) (.nil)) (fun z => nomatch z) c_pinit k_pinit
  obtain ⟨u0_pinit, v0_pinit, b0_pinit⟩ := F_pinit.binds1 (ps := ["self", "x", "y", "over"]) 3 0 (fun z => nomatch z) rfl fun T kV doc pm an cdv ct us its h1 h2 => match us, its, h1, h2 with | [_, _, _], [_], _, _ => ⟨_, rfl, rfl⟩
  obtain ⟨u1_pinit, v1_pinit, b1_pinit⟩ := F_pinit.binds1 (ps := ["self", "x", "y", "over"]) 4 1 (fun z => nomatch z) rfl fun T kV doc pm an cdv ct us its h1 h2 => match us, its, h1, h2 with | [_, _, _, _], [_], _, _ => ⟨_, rfl, rfl⟩
  have F_checkslope := fd_mk (st := s_check_slope) l_checkslope c_checkslope k_checkslope
  have b_checkslope := F_checkslope.bindsN (ps := ["slope"]) fun _ _ _ _ _ _ us hl => match us, hl with | [_], _ => rfl
  have g_checkslope := PySem.W.mg_of X G a_checkslope
  have F_valueat := fd_mk (st := s_value_at) l_valueat c_valueat k_valueat
  have b_valueat := F_valueat.bindsN (ps := ["slope", "point"]) fun _ _ _ _ _ _ us hl => match us, hl with | [_, _], _ => rfl
  have g_valueat := PySem.W.mg_of X G a_valueat
  have F_comb := fd_mk (st := s_combination) l_comb c_comb k_comb
  have b_comb := F_comb.bindsN (ps := ["a", "b"]) fun _ _ _ _ _ _ us hl => match us, hl with | [_, _], _ => rfl
  have g_comb := PySem.W.mg_of X G a_comb
  have F_cellat := fd_mk (st := s_cell_at) l_cellat c_cellat k_cellat
  have b_cellat := F_cellat.bindsN (ps := ["slope", "level", "step"]) fun _ _ _ _ _ _ us hl => match us, hl with | [_, _, _], _ => rfl
  have g_cellat := PySem.W.mg_of X G a_cellat
  have F_mate := fd_mk (st := s_mate) l_mate c_mate k_mate
  have b_mate := F_mate.bindsN (ps := ["slope"]) fun _ _ _ _ _ _ us hl => match us, hl with | [_], _ => rfl
  have g_mate := PySem.W.mg_of X G a_mate
  have F_nth := fd_mk (st := s_law_nth) l_nth c_nth k_nth
  have b_nth := F_nth.bindsN (ps := ["_law_script", "_law_k"]) fun _ _ _ _ _ _ us hl => match us, hl with | [_, _], _ => rfl
  have g_nth := PySem.W.mg_of X G a_nth
  have F_draws := fd_mk (st := s_law_draws) l_draws c_draws k_draws
  have b_draws := F_draws.bindsN (ps := ["_law_cell", "_law_count"]) fun _ _ _ _ _ _ us hl => match us, hl with | [_, _], _ => rfl
  have g_draws := PySem.W.mg_of X G a_draws
  have F_same := fd_mk (st := s_law_same) l_same c_same k_same
  have b_same := F_same.bindsN (ps := ["_law_actual", "_law_due"]) fun _ _ _ _ _ _ us hl => match us, hl with | [_, _], _ => rfl
  have g_same := PySem.W.mg_of X G a_same
  have F_lgcd := fd_mk (st := s_law_gcd) l_lgcd c_lgcd k_lgcd
  have b_lgcd := F_lgcd.bindsN (ps := ["_law_one", "_law_two"]) fun _ _ _ _ _ _ us hl => match us, hl with | [_, _], _ => rfl
  have g_lgcd := PySem.W.mg_of X G a_lgcd
  have F_lred := fd_mk (st := s_law_reduced) l_lred c_lred k_lred
  have b_lred := F_lred.bindsN (ps := ["_law_n", "_law_d"]) fun _ _ _ _ _ _ us hl => match us, hl with | [_, _], _ => rfl
  have g_lred := PySem.W.mg_of X G a_lred
  have F_number := fd_mk (st := s_law_draw_number) l_number c_number k_number
  have b_number := F_number.bindsN (ps := ["_law_pool", "_law_at"]) fun _ _ _ _ _ _ us hl => match us, hl with | [_, _], _ => rfl
  have g_number := PySem.W.mg_of X G a_number
  have F_over := fd_mk (st := s_law_draw_over) l_over c_over k_over
  have b_over := F_over.bindsN (ps := ["_law_pool", "_law_at"]) fun _ _ _ _ _ _ us hl => match us, hl with | [_, _], _ => rfl
  have g_over := PySem.W.mg_of X G a_over
  have F_isint := fd_mk (st := s_law_is_integer) l_isint c_isint k_isint
  have b_isint := F_isint.bindsN (ps := ["_law_number"]) fun _ _ _ _ _ _ us hl => match us, hl with | [_], _ => rfl
  have g_isint := PySem.W.mg_of X G a_isint
  have F_ispair := fd_mk (st := s_law_is_pair) l_ispair c_ispair k_ispair
  have b_ispair := F_ispair.bindsN (ps := ["_law_pair"]) fun _ _ _ _ _ _ us hl => match us, hl with | [_], _ => rfl
  have g_ispair := PySem.W.mg_of X G a_ispair
  have F_drawslope := fd_mk (st := s_law_draw_slope) l_drawslope c_drawslope k_drawslope
  have b_drawslope := F_drawslope.bindsN (ps := ["_law_pool", "_law_at"]) fun _ _ _ _ _ _ us hl => match us, hl with | [_, _], _ => rfl
  have g_drawslope := PySem.W.mg_of X G a_drawslope
  have F_law := fd_mk (st := s_law) l_law c_law k_law
  have b_law := F_law.bindsN (ps := ["_law_script"]) fun _ _ _ _ _ _ us hl => match us, hl with | [_], _ => rfl
  refine ⟨_, fun s u => F_law.bindsA (ps := ["_law_script"]) (fun _ _ _ _ _ _ us hl => match us, hl with | [_], _ => rfl) s [u] rfl, fun base _ _ => ?_⟩
  let W : Wd := ⟨l.prog, w, K, mg, base⟩
  let S : Sg := ⟨K, C, iX, iY, iO, fun _ => 0, fun i => if i = 2 then e_BadSlope else if i = 1 then e_BadOver else 0⟩
  have T : Mb W := ⟨PySem.W.mg_none_of X G z_abs, PySem.W.mg_none_of X G z_int, PySem.W.mg_none_of X G z_len, PySem.W.mg_none_of X G z_range, PySem.W.mg_none_of X G z_isinstance, PySem.W.mg_none_of X G z_bool, PySem.W.mg_none_of X G z_str, PySem.W.mg_none_of X G z_tuple, PySem.W.mg_none_of X G z_list, PySem.W.mg_none_of X G z_max, PySem.W.mg_none_of X G z_min, PySem.W.mg_none_of X G z_enumerate, PySem.W.mg_none_of X G z_sorted, PySem.W.mg_none_of X G z_set, PySem.W.mg_none_of X G z_sum, PySem.W.mg_none_of X G z_all, PySem.W.mg_none_of X G z_any, PySem.W.mg_none_of X G z_zip, PySem.W.mg_none_of X G z_iter, PySem.W.mg_none_of X G z_next, PySem.W.mg_none_of X G z_valueerror⟩
  have TP : PtC W S := ⟨g_Point, ⟨pg, ic, po, saP⟩, ⟨caP, cn, ctk, moP⟩, ⟨pX, sAX, sGX, sTX, sYX, sIX, sLX⟩, ⟨pY, sAY, sGY, sTY, sYY, sIY, sLY⟩, ⟨pO, sAO, sGO, sTO, sYO, sIO, sLO⟩, nXY, nXO, nYO⟩
  have E_BadOver : ErrC W S 1 "BadOver" ["over"] := by
    refine ⟨g_BadOver, ox_BadOver, ⟨ga_BadOver, gg_BadOver, sx_BadOver, hd_BadOver⟩, ⟨ga_BadOver, gg_BadOver, sx_BadOver, hd_BadOver, ca_BadOver, cn, ctk, mo_BadOver⟩, exmC_of sx_BadOver (kitC_of ic_BadOver ty_BadOver ss_BadOver), fun f hf => ?_, A_iBadOver, _, a_iBadOver, tf_iBadOver, err_init1 (W := W) F_iBadOver s_BadOver_init_sc rfl ox_BadOver nf_BadOver_over (.inl rfl) (.inl rfl) rfl rfl, b_iBadOver⟩
    rcases List.mem_cons.mp hf with rfl | hf
    · exact nf_BadOver_over
    · exact nomatch hf
  have E_BadSlope : ErrC W S 2 "BadSlope" ["a", "b"] := by
    refine ⟨g_BadSlope, ox_BadSlope, ⟨ga_BadSlope, gg_BadSlope, sx_BadSlope, hd_BadSlope⟩, ⟨ga_BadSlope, gg_BadSlope, sx_BadSlope, hd_BadSlope, ca_BadSlope, cn, ctk, mo_BadSlope⟩, exmC_of sx_BadSlope (kitC_of ic_BadSlope ty_BadSlope ss_BadSlope), fun f hf => ?_, A_iBadSlope, _, a_iBadSlope, tf_iBadSlope, err_init2 (W := W) F_iBadSlope s_BadSlope_init_sc rfl ox_BadSlope nf_BadSlope_a nf_BadSlope_b (.inl rfl) (.inl rfl) (.inl rfl) rfl rfl rfl rfl, b_iBadSlope⟩
    rcases List.mem_cons.mp hf with rfl | hf
    · exact nf_BadSlope_a
    rcases List.mem_cons.mp hf with rfl | hf
    · exact nf_BadSlope_b
    · exact nomatch hf
  have ok_gcd : FnOk W.P W.w W.K W.mg W.base (L2N.CX W.P W.w) 1 A_gcd _ ["one", "two"] (spOf S 2 RGcd) := Ev.ok_gcd F_gcd rfl T 
  have f_gcd : Fn W S 1 "common_divisor" 2 [] RGcd := ⟨⟨A_gcd, _, _, ok_gcd, g_gcd, k_gcd, rfl, [], [], b_gcd, .nil, fun _ => .nil⟩⟩
  have ok_red : FnOk W.P W.w W.K W.mg W.base (L2N.CX W.P W.w) 3 A_red _ ["n", "d"] (spOf S 2 RRed) := Ev.ok_red F_red rfl T f_gcd E_BadOver
  have f_red : Fn W S 3 "reduced" 2 [] RRed := ⟨⟨A_red, _, _, ok_red, g_red, k_red, rfl, [], [], b_red, .nil, fun _ => .nil⟩⟩
  have ok_pinit := Ev.ok_pinit (W := W) (S := S) F_pinit rfl T TP f_gcd E_BadOver
  have f_pt : PtI W S 3 3 [] RPt := ⟨g_Point, A_pinit, _, _, ⟨mkP, a_pinit, i_pinit, kcP⟩, ok_pinit, rfl, [], _, b1_pinit, v1_pinit, fun _ => .nil⟩
  have f_pt2 : PtI W S 3 2 [.int 1] RPt := ⟨g_Point, A_pinit, _, _, ⟨mkP, a_pinit, i_pinit, kcP⟩, ok_pinit, rfl, [.int 1], _, b0_pinit, v0_pinit, fun _ => .cons (.int 1) .nil⟩
  have ok_checkslope : FnOk W.P W.w W.K W.mg W.base (L2N.CX W.P W.w) 3 A_checkslope _ ["slope"] (spOf S 1 RChk) := Ev.ok_checkslope F_checkslope rfl T f_gcd E_BadSlope
  have f_checkslope : Fn W S 3 "check_slope" 1 [] RChk := ⟨⟨A_checkslope, _, _, ok_checkslope, g_checkslope, k_checkslope, rfl, [], [], b_checkslope, .nil, fun _ => .nil⟩⟩
  have ok_valueat : FnOk W.P W.w W.K W.mg W.base (L2N.CX W.P W.w) 4 A_valueat _ ["slope", "point"] (spOf S 2 RVal) := Ev.ok_valueat F_valueat rfl T TP f_checkslope f_red
  have f_valueat : Fn W S 4 "value_at" 2 [] RVal := ⟨⟨A_valueat, _, _, ok_valueat, g_valueat, k_valueat, rfl, [], [], b_valueat, .nil, fun _ => .nil⟩⟩
  have ok_comb : FnOk W.P W.w W.K W.mg W.base (L2N.CX W.P W.w) 1 A_comb _ ["a", "b"] (spOf S 2 RComb) := Ev.ok_comb F_comb rfl T 
  have f_comb : Fn W S 1 "combination" 2 [] RComb := ⟨⟨A_comb, _, _, ok_comb, g_comb, k_comb, rfl, [], [], b_comb, .nil, fun _ => .nil⟩⟩
  have ok_cellat : FnOk W.P W.w W.K W.mg W.base (L2N.CX W.P W.w) 4 A_cellat _ ["slope", "level", "step"] (spOf S 3 RCell) := Ev.ok_cellat F_cellat rfl T f_checkslope f_comb
  have f_cellat : Fn W S 4 "cell_at" 3 [] RCell := ⟨⟨A_cellat, _, _, ok_cellat, g_cellat, k_cellat, rfl, [], [], b_cellat, .nil, fun _ => .nil⟩⟩
  have ok_mate : FnOk W.P W.w W.K W.mg W.base (L2N.CX W.P W.w) 5 A_mate _ ["slope"] (spOf S 1 RMate) := Ev.ok_mate F_mate rfl T f_cellat
  have f_mate : Fn W S 5 "mate" 1 [] RMate := ⟨⟨A_mate, _, _, ok_mate, g_mate, k_mate, rfl, [], [], b_mate, .nil, fun _ => .nil⟩⟩
  have ok_nth : FnOk W.P W.w W.K W.mg W.base (L2N.CX W.P W.w) 1 A_nth _ ["_law_script", "_law_k"] (spOf S 2 RNth) := Ev.ok_nth F_nth rfl T 
  have f_nth : Fn W S 1 "_law_nth" 2 [] RNth := ⟨⟨A_nth, _, _, ok_nth, g_nth, k_nth, rfl, [], [], b_nth, .nil, fun _ => .nil⟩⟩
  have ok_draws : FnOk W.P W.w W.K W.mg W.base (L2N.CX W.P W.w) 1 A_draws _ ["_law_cell", "_law_count"] (spOf S 2 RDraws) := Ev.ok_draws F_draws rfl T 
  have f_draws : Fn W S 1 "_law_draws" 2 [] RDraws := ⟨⟨A_draws, _, _, ok_draws, g_draws, k_draws, rfl, [], [], b_draws, .nil, fun _ => .nil⟩⟩
  have ok_same : FnOk W.P W.w W.K W.mg W.base (L2N.CX W.P W.w) 4 A_same _ ["_law_actual", "_law_due"] (spOf S 2 (RSame 3)) := Ev.ok_same F_same rfl T g_same k_same b_same 3
  have f_same : Fn W S 4 "_law_same" 2 [] (RSame 3) := ⟨⟨A_same, _, _, ok_same, g_same, k_same, rfl, [], [], b_same, .nil, fun _ => .nil⟩⟩
  have ok_lgcd : FnOk W.P W.w W.K W.mg W.base (L2N.CX W.P W.w) 1 A_lgcd _ ["_law_one", "_law_two"] (spOf S 2 RGcd) := Ev.ok_lgcd F_lgcd rfl T 
  have f_lgcd : Fn W S 1 "_law_gcd" 2 [] RGcd := ⟨⟨A_lgcd, _, _, ok_lgcd, g_lgcd, k_lgcd, rfl, [], [], b_lgcd, .nil, fun _ => .nil⟩⟩
  have ok_lred : FnOk W.P W.w W.K W.mg W.base (L2N.CX W.P W.w) 2 A_lred _ ["_law_n", "_law_d"] (spOf S 2 RLRed) := Ev.ok_lred F_lred rfl T f_lgcd
  have f_lred : Fn W S 2 "_law_reduced" 2 [] RLRed := ⟨⟨A_lred, _, _, ok_lred, g_lred, k_lred, rfl, [], [], b_lred, .nil, fun _ => .nil⟩⟩
  have ok_number : FnOk W.P W.w W.K W.mg W.base (L2N.CX W.P W.w) 1 A_number _ ["_law_pool", "_law_at"] (spOf S 2 RNum) := Ev.ok_number F_number rfl T 
  have f_number : Fn W S 1 "_law_draw_number" 2 [] RNum := ⟨⟨A_number, _, _, ok_number, g_number, k_number, rfl, [], [], b_number, .nil, fun _ => .nil⟩⟩
  have ok_over : FnOk W.P W.w W.K W.mg W.base (L2N.CX W.P W.w) 1 A_over _ ["_law_pool", "_law_at"] (spOf S 2 ROver) := Ev.ok_over F_over rfl T 
  have f_over : Fn W S 1 "_law_draw_over" 2 [] ROver := ⟨⟨A_over, _, _, ok_over, g_over, k_over, rfl, [], [], b_over, .nil, fun _ => .nil⟩⟩
  have ok_isint : FnOk W.P W.w W.K W.mg W.base (L2N.CX W.P W.w) 1 A_isint _ ["_law_number"] (spOf S 1 RIsI) := Ev.ok_isint F_isint rfl T 
  have f_isint : Fn W S 1 "_law_is_integer" 1 [] RIsI := ⟨⟨A_isint, _, _, ok_isint, g_isint, k_isint, rfl, [], [], b_isint, .nil, fun _ => .nil⟩⟩
  have ok_ispair : FnOk W.P W.w W.K W.mg W.base (L2N.CX W.P W.w) 2 A_ispair _ ["_law_pair"] (spOf S 1 RIsP) := Ev.ok_ispair F_ispair rfl T f_isint
  have f_ispair : Fn W S 2 "_law_is_pair" 1 [] RIsP := ⟨⟨A_ispair, _, _, ok_ispair, g_ispair, k_ispair, rfl, [], [], b_ispair, .nil, fun _ => .nil⟩⟩
  have ok_drawslope : FnOk W.P W.w W.K W.mg W.base (L2N.CX W.P W.w) 2 A_drawslope _ ["_law_pool", "_law_at"] (spOf S 2 RSlp) := Ev.ok_drawslope F_drawslope rfl T f_number f_lgcd
  have f_drawslope : Fn W S 2 "_law_draw_slope" 2 [] RSlp := ⟨⟨A_drawslope, _, _, ok_drawslope, g_drawslope, k_drawslope, rfl, [], [], b_drawslope, .nil, fun _ => .nil⟩⟩
  exact (Ev.ok_law (W := W) (S := S) F_law rfl T TP f_nth f_draws f_same f_lred f_number f_over f_pt f_drawslope f_ispair f_valueat f_cellat f_mate).imp fun vs H Q E hh => law_imp (S := S) hh
theorem walk {l : PySem.W.OpenLaw} {q : Program} {loose : List Str} {XP : (Str → Option Value) → Heap → Prop} {YP : World → Heap → Prop} {d : DefRec} {K : Params → PySem.W.Frag} (hn : l.most = some 63) (hdf : d.params.defaults = [])
    (hY : ∀ (w : World) (h : Heap), YP w h → (K w.params).In h) (F : ∀ (w : World) (mg : Str → Option Value) (fa : Addr) (h : Heap), (K w.params).In h → h.Ns mainGlobals mg → mg d.name = some (.ref fa) → ∃ fd : FuncData, (∀ (s : Shared) (u : Value), BindsTo s fd ⟨[u], []⟩ [("_law_script", u)]) ∧
      ∀ base : Heap, (K w.params).In base → base.Ns mainGlobals mg → FnOk l.prog w (K w.params) mg base (L2N.CX l.prog w) 12 fa fd ["_law_script"] (spLaw (K w.params))) : PySem.W.WalkO q loose XP YP l.row.toRowW d [] (fun f vs => PySem.call f vs) :=
  L2.walk_of (n := 63) (k := 12) (x := "_law_script") (CX := fun w => L2N.CX l.prog w) (sp := fun w => spLaw (K w.params)) hn (by decide) hdf ⟨rfl, by decide, by decide⟩ hY F (fun _ _ a ns hl _ hS => ⟨a, ns, rfl, hl, hS, fun _ => rfl⟩) fun _ H s e s' z => cx_none H s e s' z
end Ev
open PySem PySem.W PyProof.Rows
set_option maxRecDepth 100000 in
set_option maxHeartbeats 0 in
theorem PySem.Challenge.cw_evenpen_k05_whole_one_cell_of_each_value_holds : PySem.Challenge.rw_evenpen_k05_whole_one_cell_of_each_value.Holds := by
  w_on; o_law; k_head; (case hw => w_witness2)
  k_fill
  refine Ev.walk (l := PySem.Challenge.rw_evenpen_k05_whole_one_cell_of_each_value) rfl rfl (fun w h Y => PySem.W.kIn_of Y) ?F
  case F =>
    intro w mg fa h KX G hmg
    refine' Ev.all_mk KX G hmg ?z_abs ?z_int ?z_len ?z_range ?z_isinstance ?z_bool ?z_str ?z_tuple ?z_list ?z_max ?z_min ?z_enumerate ?z_sorted ?z_set ?z_sum ?z_all ?z_any ?z_zip ?z_iter ?z_next ?z_valueerror ?cn ?ctk ?a_Point ?pg ?ic ?po ?tyP ?saP ?caP ?moP ?sAX ?sGX ?sTX ?sYX ?sIX ?sLX ?sAY ?sGY ?sTY ?sYY ?sIY ?sLY ?sAO ?sGO ?sTO ?sYO ?sIO ?sLO ?nXY ?nXO ?nYO ?a_BadOver ?x_BadOver ?r_BadOver ?sa_BadOver ?ga_BadOver ?gg_BadOver ?ca_BadOver ?sx_BadOver ?ty_BadOver ?kc_BadOver ?hd_BadOver ?ic_BadOver ?ss_BadOver ?mo_BadOver ?nf_BadOver_over ?a_iBadOver ?tf_iBadOver ?l_iBadOver ?c_iBadOver ?k_iBadOver ?a_BadSlope ?x_BadSlope ?r_BadSlope ?sa_BadSlope ?ga_BadSlope ?gg_BadSlope ?ca_BadSlope ?sx_BadSlope ?ty_BadSlope ?kc_BadSlope ?hd_BadSlope ?ic_BadSlope ?ss_BadSlope ?mo_BadSlope ?nf_BadSlope_a ?nf_BadSlope_b ?a_iBadSlope ?tf_iBadSlope ?l_iBadSlope ?c_iBadSlope ?k_iBadSlope ?a_gcd ?l_gcd ?c_gcd ?k_gcd ?a_red ?l_red ?c_red ?k_red ?a_pinit ?i_pinit ?mkP ?kcP ?l_pinit ?c_pinit ?k_pinit ?t_pinit ?a_checkslope ?l_checkslope ?c_checkslope ?k_checkslope ?a_valueat ?l_valueat ?c_valueat ?k_valueat ?a_comb ?l_comb ?c_comb ?k_comb ?a_cellat ?l_cellat ?c_cellat ?k_cellat ?a_mate ?l_mate ?c_mate ?k_mate ?a_nth ?l_nth ?c_nth ?k_nth ?a_draws ?l_draws ?c_draws ?k_draws ?a_same ?l_same ?c_same ?k_same ?a_lgcd ?l_lgcd ?c_lgcd ?k_lgcd ?a_lred ?l_lred ?c_lred ?k_lred ?a_number ?l_number ?c_number ?k_number ?a_over ?l_over ?c_over ?k_over ?a_isint ?l_isint ?c_isint ?k_isint ?a_ispair ?l_ispair ?c_ispair ?k_ispair ?a_drawslope ?l_drawslope ?c_drawslope ?k_drawslope ?a_law ?l_law ?c_law ?k_law
    (case z_abs => k_is)
    (case z_int => k_is)
    (case z_len => k_is)
    (case z_range => k_is)
    (case z_isinstance => k_is)
    (case z_bool => k_is)
    (case z_str => k_is)
    (case z_tuple => k_is)
    (case z_list => k_is)
    (case z_max => k_is)
    (case z_min => k_is)
    (case z_enumerate => k_is)
    (case z_sorted => k_is)
    (case z_set => k_is)
    (case z_sum => k_is)
    (case z_all => k_is)
    (case z_any => k_is)
    (case z_zip => k_is)
    (case z_iter => k_is)
    (case z_next => k_is)
    (case z_valueerror => k_is)
    (case cn => k_is)
    (case ctk => k_is)
    (case a_Point => k_is)
    (case pg => k_is)
    (case ic => k_is)
    (case po => k_is)
    (case tyP => k_is)
    (case saP => k_is)
    (case caP => k_is)
    (case moP => k_is)
    (case sAX => k_is)
    (case sGX => k_is)
    (case sTX => k_is)
    (case sYX => k_is)
    (case sIX => k_is)
    (case sLX => decide)
    (case sAY => k_is)
    (case sGY => k_is)
    (case sTY => k_is)
    (case sYY => k_is)
    (case sIY => k_is)
    (case sLY => decide)
    (case sAO => k_is)
    (case sGO => k_is)
    (case sTO => k_is)
    (case sYO => k_is)
    (case sIO => k_is)
    (case sLO => decide)
    (case nXY => decide)
    (case nXO => decide)
    (case nYO => decide)
    (case a_BadOver => k_is)
    (case x_BadOver => k_is)
    (case r_BadOver => first | rfl | decide +kernel)
    (case sa_BadOver => k_is)
    (case ga_BadOver => k_is)
    (case gg_BadOver => k_is)
    (case ca_BadOver => k_is)
    (case sx_BadOver => k_is)
    (case ty_BadOver => k_is)
    (case kc_BadOver => k_is)
    (case hd_BadOver => k_is)
    (case ic_BadOver => k_is)
    (case ss_BadOver => first | rfl | k_is)
    (case mo_BadOver => k_is)
    (case nf_BadOver_over => k_is)
    (case a_iBadOver => k_is)
    (case tf_iBadOver => k_is)
    (case l_iBadOver => k_is)
    (case c_iBadOver => k_is)
    (case k_iBadOver => k_is)
    (case a_BadSlope => k_is)
    (case x_BadSlope => k_is)
    (case r_BadSlope => first | rfl | decide +kernel)
    (case sa_BadSlope => k_is)
    (case ga_BadSlope => k_is)
    (case gg_BadSlope => k_is)
    (case ca_BadSlope => k_is)
    (case sx_BadSlope => k_is)
    (case ty_BadSlope => k_is)
    (case kc_BadSlope => k_is)
    (case hd_BadSlope => k_is)
    (case ic_BadSlope => k_is)
    (case ss_BadSlope => first | rfl | k_is)
    (case mo_BadSlope => k_is)
    (case nf_BadSlope_a => k_is)
    (case nf_BadSlope_b => k_is)
    (case a_iBadSlope => k_is)
    (case tf_iBadSlope => k_is)
    (case l_iBadSlope => k_is)
    (case c_iBadSlope => k_is)
    (case k_iBadSlope => k_is)
    (case a_gcd => k_is)
    (case l_gcd => k_is)
    (case c_gcd => k_is)
    (case k_gcd => k_is)
    (case a_red => k_is)
    (case l_red => k_is)
    (case c_red => k_is)
    (case k_red => k_is)
    (case a_pinit => k_is)
    (case i_pinit => k_is)
    (case mkP => k_is)
    (case kcP => k_is)
    (case l_pinit => k_is)
    (case c_pinit => k_is)
    (case k_pinit => k_is)
    (case t_pinit => k_is)
    (case a_checkslope => k_is)
    (case l_checkslope => k_is)
    (case c_checkslope => k_is)
    (case k_checkslope => k_is)
    (case a_valueat => k_is)
    (case l_valueat => k_is)
    (case c_valueat => k_is)
    (case k_valueat => k_is)
    (case a_comb => k_is)
    (case l_comb => k_is)
    (case c_comb => k_is)
    (case k_comb => k_is)
    (case a_cellat => k_is)
    (case l_cellat => k_is)
    (case c_cellat => k_is)
    (case k_cellat => k_is)
    (case a_mate => k_is)
    (case l_mate => k_is)
    (case c_mate => k_is)
    (case k_mate => k_is)
    (case a_nth => k_is)
    (case l_nth => k_is)
    (case c_nth => k_is)
    (case k_nth => k_is)
    (case a_draws => k_is)
    (case l_draws => k_is)
    (case c_draws => k_is)
    (case k_draws => k_is)
    (case a_same => k_is)
    (case l_same => k_is)
    (case c_same => k_is)
    (case k_same => k_is)
    (case a_lgcd => k_is)
    (case l_lgcd => k_is)
    (case c_lgcd => k_is)
    (case k_lgcd => k_is)
    (case a_lred => k_is)
    (case l_lred => k_is)
    (case c_lred => k_is)
    (case k_lred => k_is)
    (case a_number => k_is)
    (case l_number => k_is)
    (case c_number => k_is)
    (case k_number => k_is)
    (case a_over => k_is)
    (case l_over => k_is)
    (case c_over => k_is)
    (case k_over => k_is)
    (case a_isint => k_is)
    (case l_isint => k_is)
    (case c_isint => k_is)
    (case k_isint => k_is)
    (case a_ispair => k_is)
    (case l_ispair => k_is)
    (case c_ispair => k_is)
    (case k_ispair => k_is)
    (case a_drawslope => k_is)
    (case l_drawslope => k_is)
    (case c_drawslope => k_is)
    (case k_drawslope => k_is)
    (case a_law => k_is)
    (case l_law => k_is)
    (case c_law => k_is)
    (case k_law => k_is)

