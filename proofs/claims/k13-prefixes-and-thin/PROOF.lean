import PyProof.Rows.All
import Wide.All
import OpenK.AllK
import Wide.FinOn
import HandS.ForMost
import HandS.ForExc
import HandS.Wide
import HandS.IsInst
import HandS.Conv
import HandS.Style
import HandS.ExcCtx
import HandS.HotCalls
import HandS.ExcIs
import HandS.Ends
import HandS.EndBits
import PySem.Challenge.RW_foreworth_k13_prefixes_and_thin
set_option Elab.async false
set_option linter.all false
set_option maxRecDepth 100000
set_option maxHeartbeats 4100000
/-! Values as plain data over the hand layer: what a def computes is a function on data; lists in the making are owned by a slot. -/
namespace Mv
open PySem L2

/-- plain data -/
inductive D where
  | non | bl (b : Bool) | int (i : Int) | str (x : Str)
  | lst (xs : List D) | tup (xs : List D)
  | rdl (xs : List D)
  | ins (C : Addr) (fs : List (Str × D))
  | exo (a : Addr)
instance : Inhabited D := ⟨.non⟩

/-- H' holds all that H tracks -/
def Le (H H' : Hp) : Prop := ∀ a o, H a = some o → H' a = some o
theorem Le.refl (H : Hp) : Le H H := fun _ _ h => h
theorem Le.trans {H H1 H2 : Hp} (a : Le H H1) (b : Le H1 H2) : Le H H2 := fun x o h => b x o (a x o h)
theorem Le.new {H : Hp} {p : Addr} {o : HO} (h : H p = none) : Le H (upd H p o) := fun a u e => by
  rw [upd_ne (ne_of_none e h)]; exact e
theorem Le.mut {H H' : Hp} {p : Addr} {o : HO} (e : Le H H') (h : H p = none) : Le H (upd H' p o) := fun a u ha => by
  rw [upd_ne (ne_of_none ha h)]; exact e a u ha
theorem Le.back {H H' : Hp} {p : Addr} (e : Le H H') (h : H' p = none) : H p = none := by
  cases h1 : H p with
  | none => rfl
  | some o => rw [e p o h1] at h; cases h
theorem Le.ne {H H' : Hp} {p : Addr} (e : Le H H') (h : H p ≠ none) : H' p ≠ none := by
  intro z; exact h (e.back z)
theorem Le.sqL {K : PySem.W.Frag} {H H' : Hp} {a : Addr} {xs : List V} (e : Le H H') (h : SqL K H a xs) : SqL K H' a xs := Same.seq e h

mutual
/-- v stands for d, read in B -/
def Rep (K : PySem.W.Frag) (B : Hp) : D → V → Prop
  | .non, v => v = .non
  | .bl b, v => v = .bl b
  | .int i, v => v = .int i
  | .str x, v => v = .str x
  | .lst ds, v => ∃ a xs, v = .ref a ∧ B a = some (.lst xs) ∧ Reps K B ds xs
  | .tup ds, v => ∃ a xs, v = .ref a ∧ B a = some (.tup xs) ∧ Reps K B ds xs
  | .rdl ds, v => ∃ a xs, v = .ref a ∧ SqL K B a xs ∧ Reps K B ds xs
  | .ins C fs, v => ∃ a dx gs, v = .ref a ∧ B a = some (.ins C dx gs) ∧ RepF K B fs gs
  | .exo a, v => v = .ref a
def Reps (K : PySem.W.Frag) (B : Hp) : List D → List V → Prop
  | [], xs => xs = []
  | d :: ds, xs => ∃ v vs, xs = v :: vs ∧ Rep K B d v ∧ Reps K B ds vs
def RepF (K : PySem.W.Frag) (B : Hp) : List (Str × D) → List (Str × V) → Prop
  | [], xs => xs = []
  | (n, d) :: ds, xs => ∃ v vs, xs = (n, v) :: vs ∧ Rep K B d v ∧ RepF K B ds vs
end
section
variable {K : PySem.W.Frag} {B B' : Hp}
mutual
theorem Rep.mono (e : Le B B') : ∀ (d : D) (v : V), Rep K B d v → Rep K B' d v
  | .non, v, h => by rw [Rep] at *; exact h
  | .bl b, v, h => by rw [Rep] at *; exact h
  | .int i, v, h => by rw [Rep] at *; exact h
  | .str x, v, h => by rw [Rep] at *; exact h
  | .lst ds, v, h => by rw [Rep] at *; obtain ⟨a, xs, h1, h2, h3⟩ := h; exact ⟨a, xs, h1, e _ _ h2, Reps.mono e ds xs h3⟩
  | .tup ds, v, h => by rw [Rep] at *; obtain ⟨a, xs, h1, h2, h3⟩ := h; exact ⟨a, xs, h1, e _ _ h2, Reps.mono e ds xs h3⟩
  | .rdl ds, v, h => by rw [Rep] at *; obtain ⟨a, xs, h1, h2, h3⟩ := h; exact ⟨a, xs, h1, e.sqL h2, Reps.mono e ds xs h3⟩
  | .ins C fs, v, h => by rw [Rep] at *; obtain ⟨a, dx, gs, h1, h2, h3⟩ := h; exact ⟨a, dx, gs, h1, e _ _ h2, RepF.mono e fs gs h3⟩
  | .exo a, v, h => by rw [Rep] at *; exact h
theorem Reps.mono (e : Le B B') : ∀ (ds : List D) (vs : List V), Reps K B ds vs → Reps K B' ds vs
  | [], xs, h => by rw [Reps] at *; exact h
  | d :: ds, xs, h => by rw [Reps] at *; obtain ⟨v, vs, h1, h2, h3⟩ := h; exact ⟨v, vs, h1, Rep.mono e d v h2, Reps.mono e ds vs h3⟩
theorem RepF.mono (e : Le B B') : ∀ (ds : List (Str × D)) (vs : List (Str × V)), RepF K B ds vs → RepF K B' ds vs
  | [], xs, h => by rw [RepF] at *; exact h
  | (n, d) :: ds, xs, h => by rw [RepF] at *; obtain ⟨v, vs, h1, h2, h3⟩ := h; exact ⟨v, vs, h1, Rep.mono e d v h2, RepF.mono e ds vs h3⟩
end
theorem reps_nil : Reps K B [] [] := by rw [Reps]
theorem reps_cons {d : D} {ds : List D} {v : V} {vs : List V} (h : Rep K B d v) (hs : Reps K B ds vs) : Reps K B (d :: ds) (v :: vs) := by
  rw [Reps]; exact ⟨v, vs, rfl, h, hs⟩
theorem Reps.length : ∀ {ds : List D} {vs : List V}, Reps K B ds vs → ds.length = vs.length
  | [], vs, h => by rw [Reps] at h; rw [h]; rfl
  | d :: ds, vs, h => by
    rw [Reps] at h; obtain ⟨v, ws, rfl, _, h3⟩ := h
    rw [List.length_cons, List.length_cons, Reps.length h3]
theorem Reps.get : ∀ {ds : List D} {vs : List V} {i : Nat} {d : D}, Reps K B ds vs → ds[i]? = some d → ∃ v, vs[i]? = some v ∧ Rep K B d v
  | [], vs, i, d, h, e => by simp at e
  | d0 :: ds, vs, 0, d, h, e => by
    rw [Reps] at h; obtain ⟨v, ws, rfl, h2, _⟩ := h
    simp at e; subst e; exact ⟨v, by simp, h2⟩
  | d0 :: ds, vs, i + 1, d, h, e => by
    rw [Reps] at h; obtain ⟨v, ws, rfl, _, h3⟩ := h
    obtain ⟨w, e1, e2⟩ := Reps.get (i := i) (d := d) h3 (by simpa using e)
    exact ⟨w, by simpa using e1, e2⟩
theorem Reps.append : ∀ {ds es : List D} {vs ws : List V}, Reps K B ds vs → Reps K B es ws → Reps K B (ds ++ es) (vs ++ ws)
  | [], es, vs, ws, h, h' => by rw [Reps] at h; subst h; exact h'
  | d :: ds, es, vs, ws, h, h' => by
    rw [Reps] at h; obtain ⟨v, us, rfl, h2, h3⟩ := h
    exact reps_cons h2 (Reps.append h3 h')
theorem Reps.take : ∀ {ds : List D} {vs : List V} (n : Nat), Reps K B ds vs → Reps K B (ds.take n) (vs.take n)
  | _, _, 0, _ => by rw [List.take_zero, List.take_zero]; exact reps_nil
  | [], vs, n + 1, h => by rw [Reps] at h; subst h; exact reps_nil
  | d :: ds, vs, n + 1, h => by
    rw [Reps] at h; obtain ⟨v, us, rfl, h2, h3⟩ := h
    exact reps_cons h2 (Reps.take n h3)
theorem Reps.drop : ∀ {ds : List D} {vs : List V} (n : Nat), Reps K B ds vs → Reps K B (ds.drop n) (vs.drop n)
  | _, _, 0, h => h
  | [], vs, n + 1, h => by rw [Reps] at h; subst h; exact reps_nil
  | d :: ds, vs, n + 1, h => by
    rw [Reps] at h; obtain ⟨v, us, rfl, h2, h3⟩ := h
    exact Reps.drop n h3
theorem Reps.set {d : D} {v : V} (h' : Rep K B d v) : ∀ {ds : List D} {vs : List V} (i : Nat), Reps K B ds vs → Reps K B (ds.set i d) (vs.set i v)
  | [], vs, i, h => by rw [Reps] at h; subst h; exact reps_nil
  | d0 :: ds, vs, 0, h => by
    rw [Reps] at h; obtain ⟨v0, us, rfl, h2, h3⟩ := h
    exact reps_cons h' h3
  | d0 :: ds, vs, i + 1, h => by
    rw [Reps] at h; obtain ⟨v0, us, rfl, h2, h3⟩ := h
    exact reps_cons h2 (Reps.set h' i h3)
theorem Reps.rep {ds : List D} {vs : List V} (h : Reps K B ds vs) : ∀ k : Nat, Reps K B (List.replicate k ds).flatten (List.replicate k vs).flatten
  | 0 => by rw [List.replicate_zero, List.replicate_zero]; exact reps_nil
  | k + 1 => by
    rw [List.replicate_succ,
      List.replicate_succ, List.flatten_cons, List.flatten_cons]
    exact h.append (Reps.rep h k)
theorem Reps.reverse : ∀ {ds : List D} {vs : List V}, Reps K B ds vs → Reps K B ds.reverse vs.reverse
  | [], vs, h => by rw [Reps] at h; subst h; exact reps_nil
  | d :: ds, vs, h => by
    rw [Reps] at h; obtain ⟨v, us, rfl, h2, h3⟩ := h
    rw [List.reverse_cons,
      List.reverse_cons]
    exact (Reps.reverse h3).append (reps_cons h2 reps_nil)
theorem rep_int {i : Int} : Rep K B (.int i) (.int i) := by rw [Rep]
theorem rep_bl {b : Bool} : Rep K B (.bl b) (.bl b) := by rw [Rep]
theorem rep_str {x : Str} : Rep K B (.str x) (.str x) := by rw [Rep]
theorem rep_non : Rep K B .non .non := by rw [Rep]
theorem reps_ints : ∀ {ns : List Int} {vs : List V}, Reps K B (ns.map D.int) vs → vs = ns.map V.int
  | [], vs, h => by rw [List.map_nil, Reps] at h; rw [h]; rfl
  | n :: ns, vs, h => by
    rw [List.map_cons, Reps] at h; obtain ⟨v, us, rfl, h2, h3⟩ := h
    rw [Rep] at h2; rw [h2, reps_ints h3]; rfl
theorem reps_of_ints : ∀ (ns : List Int), Reps K B (ns.map D.int) (ns.map V.int)
  | [] => reps_nil
  | n :: ns => reps_cons rep_int (reps_of_ints ns)
end

/-- data that is no object -/
def flat : D → Bool
  | .non => true | .bl _ => true | .int _ => true | .str _ => true | .exo _ => true | _ => false
theorem Rep.flat {K : PySem.W.Frag} {B B' : Hp} {d : D} {v : V} (f : flat d = true) (h : Rep K B d v) : Rep K B' d v := by
  cases d <;> first | (rw [Rep] at *; exact h) | (cases f)

/-! ### ownership -/
inductive All3 {α β γ : Type} (R : α → β → γ → Prop) : List α → List β → List γ → Prop where
  | nil : All3 R [] [] []
  | cons {a : α} {b : β} {c : γ} {as : List α} {bs : List β} {cs : List γ} : R a b c → All3 R as bs cs → All3 R (a :: as) (b :: bs) (c :: cs)
section
variable {α β γ : Type} {R S : α → β → γ → Prop}
theorem All3.imp {as : List α} {bs : List β} {cs : List γ} (h : All3 R as bs cs) (k : ∀ a b c, c ∈ cs → R a b c → S a b c) : All3 S as bs cs := by
  induction h with
  | nil => exact .nil
  | cons r t ih => exact .cons (k _ _ _ List.mem_cons_self r) (ih fun a b c hc => k a b c (List.mem_cons_of_mem _ hc))
theorem All3.len1 {as : List α} {bs : List β} {cs : List γ} (h : All3 R as bs cs) : as.length = bs.length := by
  induction h with
  | nil => rfl
  | cons r t ih => rw [List.length_cons, List.length_cons, ih]
theorem All3.len2 {as : List α} {bs : List β} {cs : List γ} (h : All3 R as bs cs) : as.length = cs.length := by
  induction h with
  | nil => rfl
  | cons r t ih => rw [List.length_cons, List.length_cons, ih]
theorem All3.get {as : List α} {bs : List β} {cs : List γ} (h : All3 R as bs cs) : ∀ {i : Nat} {a : α}, as[i]? = some a → ∃ b c, bs[i]? = some b ∧ cs[i]? = some c ∧ R a b c := by
  induction h with
  | nil =>
    intro i a e; simp at e
  | cons r t ih =>
    intro i a e
    cases i with
    | zero => simp at e; subst e; exact ⟨_, _, by simp, by simp, r⟩
    | succ i =>
      obtain ⟨b, c, h1, h2, h3⟩ := ih (i := i) (a := a) (by simpa using e)
      exact ⟨b, c, by simpa using h1, by simpa using h2, h3⟩
theorem All3.set {as : List α} {bs : List β} {cs : List γ} (h : All3 R as bs cs) {a : α} {b : β} {c : γ} (r : R a b c) : ∀ i : Nat, All3 R (as.set i a) (bs.set i b) (cs.set i c) := by
  induction h with
  | nil => intro i; exact .nil
  | cons r0 t ih =>
    intro i
    cases i with
    | zero => exact .cons r t
    | succ i => exact .cons r0 (ih i)
theorem All3.append {as as' : List α} {bs bs' : List β} {cs cs' : List γ} (h : All3 R as bs cs) (h' : All3 R as' bs' cs') : All3 R (as ++ as') (bs ++ bs') (cs ++ cs') := by
  induction h with
  | nil => exact h'
  | cons r t ih => exact .cons r ih
end

/-- d is owned n levels deep: the cells fp are the owner's alone; below, it is read in B -/
def Ow (K : PySem.W.Frag) (B H : Hp) : Nat → D → V → List Addr → Prop
  | 0, d, v, fp => fp = [] ∧ Rep K B d v
  | n + 1, d, v, fp => ∃ ds p xs fps, d = .lst ds ∧ v = .ref p ∧ H p = some (.lst xs) ∧ fp = p :: fps.flatten ∧ All3 (Ow K B H n) ds xs fps
/-- the same, borrowed -/
def Bw (K : PySem.W.Frag) (B H : Hp) (n : Nat) (d : D) (v : V) : Prop := ∃ fp, Ow K B H n d v fp
section
variable {K : PySem.W.Frag} {B B' H H' : Hp}
theorem mem_fl {a : Addr} {c : List Addr} {cs : List (List Addr)} (h : c ∈ cs) (ha : a ∈ c) : a ∈ cs.flatten := List.mem_flatten.mpr ⟨c, h, ha⟩
theorem Ow.at : ∀ {n : Nat} {d : D} {v : V} {fp : List Addr}, Ow K B H n d v fp → ∀ a ∈ fp, ∃ xs, H a = some (.lst xs)
  | 0, d, v, fp, h, a, ha => by obtain ⟨rfl, _⟩ := h; cases ha
  | n + 1, d, v, fp, h, a, ha => by
    obtain ⟨ds, p, xs, fps, rfl, rfl, hp, rfl, al⟩ := h
    rcases List.mem_cons.mp ha with e | e
    · subst e; exact ⟨_, hp⟩
    · obtain ⟨c, hc, hac⟩ := List.mem_flatten.mp e
      have : ∀ {as : List D} {bs : List V} {cs : List (List Addr)}, All3 (Ow K B H n) as bs cs → c ∈ cs → ∃ xs, H a = some (.lst xs) := fun h => by
        induction h with
        | nil => intro z; cases z
        | cons r t ih =>
          intro z
          rcases List.mem_cons.mp z with e | e
          · subst e; exact Ow.at r a hac
          · exact ih e
      exact this al hc
theorem Ow.mono (eB : Le B B') : ∀ {n : Nat} {d : D} {v : V} {fp : List Addr}, Ow K B H n d v fp → (∀ a ∈ fp, H' a = H a) → Ow K B' H' n d v fp
  | 0, d, v, fp, h, _ => ⟨h.1, Rep.mono eB _ _ h.2⟩
  | n + 1, d, v, fp, h, k => by
    obtain ⟨ds, p, xs, fps, rfl, rfl, hp, rfl, al⟩ := h
    refine ⟨ds, p, xs, fps, rfl, rfl, ?_, rfl, al.imp fun a b c hc r => Ow.mono eB r fun x hx => k x (List.mem_cons_of_mem _ (mem_fl hc hx))⟩
    rw [k p List.mem_cons_self]; exact hp
theorem Ow.le (eB : Le B B') (eH : Le H H') {n : Nat} {d : D} {v : V} {fp : List Addr} (h : Ow K B H n d v fp) : Ow K B' H' n d v fp :=
  h.mono eB fun a ha => by obtain ⟨xs, e⟩ := h.at a ha; rw [e, eH _ _ e]
theorem Bw.le (eB : Le B B') (eH : Le H H') {n : Nat} {d : D} {v : V} (h : Bw K B H n d v) : Bw K B' H' n d v := let ⟨fp, q⟩ := h; ⟨fp, q.le eB eH⟩
theorem Ow.bw {n : Nat} {d : D} {v : V} {fp : List Addr} (h : Ow K B H n d v fp) : Bw K B H n d v := ⟨fp, h⟩
theorem Bw.rep {d : D} {v : V} (h : Bw K B H 0 d v) : Rep K B d v := let ⟨_, q⟩ := h; q.2
theorem bw0 {d : D} {v : V} (h : Rep K B d v) : Bw K B H 0 d v := ⟨[], rfl, h⟩
theorem all_reps (eBH : Le B H) {n : Nat} (ih : ∀ {d : D} {v : V} {fp : List Addr}, Ow K B H n d v fp → Rep K H d v) {ds : List D} {xs : List V} {fps : List (List Addr)} (h : All3 (Ow K B H n) ds xs fps) : Reps K H ds xs := by
  induction h with
  | nil => exact reps_nil
  | cons r t ih2 => exact reps_cons (ih r) ih2
/-- a borrowed thing is read in the heap as it stands -/
theorem Ow.here (eBH : Le B H) : ∀ {n : Nat} {d : D} {v : V} {fp : List Addr}, Ow K B H n d v fp → Rep K H d v
  | 0, d, v, fp, h => Rep.mono eBH _ _ h.2
  | n + 1, d, v, fp, h => by
    obtain ⟨ds, p, xs, fps, rfl, rfl, hp, rfl, al⟩ := h
    rw [Rep]
    exact ⟨p, xs, rfl, hp, all_reps eBH (fun q => Ow.here eBH q) al⟩
theorem Bw.here (eBH : Le B H) {n : Nat} {d : D} {v : V} (h : Bw K B H n d v) : Rep K H d v := let ⟨_, q⟩ := h; q.here eBH
/-- a list, borrowed: its cell and its items -/
theorem Bw.list (eBH : Le B H) {n : Nat} {ds : List D} {v : V} (h : Bw K B H n (.lst ds) v) : ∃ p xs, v = .ref p ∧ H p = some (.lst xs) ∧ ds.length = xs.length ∧ ∀ (i : Nat) d, ds[i]? = some d → ∃ x, xs[i]? = some x ∧ Bw K B H (n - 1) d x := by
  obtain ⟨fp, h⟩ := h
  cases n with
  | zero =>
    obtain ⟨_, h⟩ := h
    rw [Rep] at h
    obtain ⟨a, xs, h1, h2, h3⟩ := h
    exact ⟨a, xs, h1, eBH _ _ h2, h3.length, fun i d e => let ⟨x, q1, q2⟩ := h3.get e; ⟨x, q1, bw0 q2⟩⟩
  | succ n =>
    obtain ⟨ds', p, xs, fps, e, h1, hp, _, al⟩ := h
    cases e
    exact ⟨p, xs, h1, hp, al.len1, fun i d e => let ⟨x, c, q1, _, q3⟩ := al.get e; ⟨x, q1, q3.bw⟩⟩
theorem Bw.flat {n : Nat} {d : D} {v : V} (f : flat d = true) (h : Bw K B H n d v) : Rep K B' d v := by
  obtain ⟨fp, h⟩ := h
  cases n with
  | zero => exact h.2.flat f
  | succ n =>
    obtain ⟨ds', p, xs, fps, e, _⟩ := h
    subst e; cases f
end

/-! ### slots, states -/
inductive Sl where
  | un
  | v (n : Nat) (d : D)
abbrev En := List Sl
def slotOk (K : PySem.W.Frag) (B H : Hp) : Sl → Option V → List Addr → Prop
  | .un, _, fp => fp = []
  | .v n d, o, fp => ∃ v, o = some v ∧ Ow K B H n d v fp
/-- from (B, H) to (B', H'): both grow, the base only by what is new -/
structure Stp (B H B' H' : Hp) : Prop where
  bb : Le B B'
  hh : Le H H'
  bh : Le B' H'
  dj : ∀ a, B a = none → H a ≠ none → B' a = none
theorem Stp.refl {B H : Hp} (h : Le B H) : Stp B H B H := ⟨Le.refl _, Le.refl _, h, fun _ e _ => e⟩
theorem Stp.trans {B H B1 H1 B2 H2 : Hp} (a : Stp B H B1 H1) (b : Stp B1 H1 B2 H2) : Stp B H B2 H2 :=
  ⟨a.bb.trans b.bb, a.hh.trans b.hh, b.bh, fun x e n => b.dj x (a.dj x e n) (a.hh.ne n)⟩
/-- the state ahead of a pure expression -/
structure Pi (K : PySem.W.Frag) (B : Hp) (σ : St) (H : Hp) (ss : En) (fps : List (List Addr)) : Prop where
  bh : Le B H
  al : All3 (slotOk K B H) ss σ fps
  nd : fps.flatten.Nodup
  fr : ∀ a ∈ fps.flatten, B a = none
section
variable {K : PySem.W.Frag} {B B' H H' : Hp} {σ : St} {ss : En} {fps : List (List Addr)}
theorem slotOk.at {s : Sl} {o : Option V} {fp : List Addr} (h : slotOk K B H s o fp) : ∀ a ∈ fp, ∃ xs, H a = some (.lst xs) := by
  cases s with
  | un => intro a ha; rw [show fp = [] from h] at ha; cases ha
  | v n d => obtain ⟨v, _, q⟩ := h; exact q.at
theorem slotOk.mono (eB : Le B B') {s : Sl} {o : Option V} {fp : List Addr} (h : slotOk K B H s o fp) (k : ∀ a ∈ fp, H' a = H a) : slotOk K B' H' s o fp := by
  cases s with
  | un => exact h
  | v n d => obtain ⟨v, e, q⟩ := h; exact ⟨v, e, q.mono eB k⟩
theorem Pi.here (h : Pi K B σ H ss fps) : ∀ a ∈ fps.flatten, ∃ xs, H a = some (.lst xs) := fun a ha => by
  obtain ⟨c, hc, hac⟩ := List.mem_flatten.mp ha
  have : ∀ {as : En} {bs : St} {cs : List (List Addr)}, All3 (slotOk K B H) as bs cs → c ∈ cs → ∃ xs, H a = some (.lst xs) := fun h => by
    induction h with
    | nil => intro z; cases z
    | cons r t ih =>
      intro z
      rcases List.mem_cons.mp z with e | e
      · subst e; exact r.at a hac
      · exact ih e
  exact this h.al hc
theorem Pi.step (h : Pi K B σ H ss fps) (s : Stp B H B' H') : Pi K B' σ H' ss fps := by
  have k : ∀ a ∈ fps.flatten, H' a = H a := fun a ha => by
    obtain ⟨xs, e⟩ := h.here a ha; rw [e, s.hh _ _ e]
  refine ⟨s.bh, h.al.imp fun a b c hc r => r.mono s.bb fun x hx => k x (mem_fl hc hx), h.nd, fun a ha => s.dj a (h.fr a ha) ?_⟩
  obtain ⟨xs, e⟩ := h.here a ha; rw [e]; exact fun z => nomatch z
theorem Pi.get (h : Pi K B σ H ss fps) {i n : Nat} {d : D} (e : ss[i]? = some (.v n d)) : ∃ v, σ[i]? = some (some v) ∧ Bw K B H n d v := by
  obtain ⟨o, c, h1, h2, v, h3, h4⟩ := h.al.get e
  subst h3
  exact ⟨v, h1, h4.bw⟩
end

/-- what a fresh result is: owned, its cells new against H0 -/
structure New (K : PySem.W.Frag) (H0 B H : Hp) (n : Nat) (d : D) (v : V) (fp : List Addr) : Prop where
  ow : Ow K B H n d v fp
  nd : fp.Nodup
  fr : ∀ a ∈ fp, B a = none ∧ H0 a = none

/-! ### freezing -/
def frzH (B H : Hp) (fp : List Addr) : Hp := fun a => if a ∈ fp then H a else B a
section
variable {K : PySem.W.Frag} {B B' H H0 H' : Hp}
theorem frz_le {fp : List Addr} (h : ∀ a ∈ fp, B a = none) : Le B (frzH B H fp) := fun a o e => by
  unfold frzH
  by_cases ha : a ∈ fp
  · rw [h a ha] at e; cases e
  · rw [if_neg ha]; exact e
theorem frz_in {fp : List Addr} (h : Le B H) : Le (frzH B H fp) H := fun a o e => by
  unfold frzH at e
  by_cases ha : a ∈ fp
  · rw [if_pos ha] at e; exact e
  · rw [if_neg ha] at e; exact h a o e
theorem frz_rep : ∀ {n : Nat} {d : D} {v : V} {fp : List Addr} (G : Hp), Le B G → (∀ a ∈ fp, G a = H a) → Ow K B H n d v fp → Rep K G d v
  | 0, d, v, fp, G, e, _, h => Rep.mono e _ _ h.2
  | n + 1, d, v, fp, G, e, k, h => by
    obtain ⟨ds, p, xs, fps, rfl, rfl, hp, rfl, al⟩ := h
    rw [Rep]
    refine ⟨p, xs, rfl, by rw [k p List.mem_cons_self]; exact hp, ?_⟩
    have : ∀ {as : List D} {bs : List V} {cs : List (List Addr)}, All3 (Ow K B H n) as bs cs → (∀ c ∈ cs, ∀ a ∈ c, G a = H a) → Reps K G as bs := fun h => by
      induction h with
      | nil => intro _; exact reps_nil
      | cons r t ih => intro z; exact reps_cons (frz_rep G e (z _ List.mem_cons_self) r) (ih fun c hc => z c (List.mem_cons_of_mem _ hc))
    exact this al fun c hc a ha => k a (List.mem_cons_of_mem _ (mem_fl hc ha))
theorem frz_at {fp : List Addr} {a : Addr} (ha : a ∈ fp) : frzH B H fp a = H a := by unfold frzH; rw [if_pos ha]
theorem frz_out {fp : List Addr} {a : Addr} (ha : a ∉ fp) : frzH B H fp a = B a := by unfold frzH; rw [if_neg ha]
/-- a fresh result becomes part of the base -/
theorem New.freeze {n : Nat} {d : D} {v : V} {fp : List Addr} (h : New K H0 B H n d v fp) (e : Le B H) :
    ∃ B', Le B B' ∧ Le B' H ∧ Rep K B' d v ∧ ∀ a, B a = none → H0 a ≠ none → B' a = none :=
  ⟨frzH B H fp, frz_le fun a ha => (h.fr a ha).1, frz_in e, frz_rep _ (frz_le fun a ha => (h.fr a ha).1) (fun a ha => frz_at ha) h.ow, fun a e1 e2 => by
    rw [frz_out fun ha => e2 (h.fr a ha).2]; exact e1⟩
end

/-! ### what is said of an exception -/
structure Exo where
  C : Addr
  fs : Option (List (Str × D))
def ExR (K : PySem.W.Frag) (B H : Hp) (e : Exo) (cls : Value) (d : Option Addr) : Prop :=
  cls = .ref e.C ∧ match e.fs with
    | none => d = none
    | some fs => ∃ dd gs, d = some dd ∧ H dd = some (.xd gs) ∧ RepF K B fs gs

inductive Res (α : Type) where
  | ok (a : α) | exc (e : Exo) | no
inductive SO where
  | nx (ss : En) | rt (n : Nat) (d : D) | bk (ss : En) | ct (ss : En) | exc (e : Exo) (ss : En) | no
namespace Res
def bind {α β : Type} (r : Res α) (f : α → Res β) : Res β := match r with
  | ok a => f a
  | exc e => exc e
  | no => no
end Res
abbrev EB := En → Res (Nat × D)
abbrev ET := En → Res Bool
abbrev EA := En → Res (List D)
abbrev SM := En → SO

/-- a pure expression's reading: a borrowed value -/
def tB (K : PySem.W.Frag) (W : WX) (f : EB) : TE := fun σ H Q => ∃ B ss fps, Pi K B σ H ss fps ∧ match f ss with
  | .ok (n, d) => ∀ B' v H', Stp B H B' H' → Bw K B' H' n d v → Q v H'
  | .exc e => ∀ B' cls dd H', Stp B H B' H' → ExR K B' H' e cls dd → W cls dd σ H'
  | .no => False
/-- a fresh value -/
def tM (K : PySem.W.Frag) (W : WX) (f : EB) : TE := fun σ H Q => ∃ B ss fps, Pi K B σ H ss fps ∧ match f ss with
  | .ok (n, d) => ∀ B' v H' fp, Stp B H B' H' → New K H B' H' n d v fp → Q v H'
  | .exc e => ∀ B' cls dd H', Stp B H B' H' → ExR K B' H' e cls dd → W cls dd σ H'
  | .no => False
/-- a test -/
def tT (K : PySem.W.Frag) (W : WX) (f : ET) : TT := fun σ H Q => ∃ B ss fps, Pi K B σ H ss fps ∧ match f ss with
  | .ok b => ∀ B' H', Stp B H B' H' → Q b H'
  | .exc e => ∀ B' cls dd H', Stp B H B' H' → ExR K B' H' e cls dd → W cls dd σ H'
  | .no => False
/-- arguments, each part of the base -/
def tA (K : PySem.W.Frag) (W : WX) (f : EA) : TA := fun σ H Q => ∃ B ss fps, Pi K B σ H ss fps ∧ match f ss with
  | .ok ds => ∀ B' vs H', Stp B H B' H' → Reps K B' ds vs → Q vs H'
  | .exc e => ∀ B' cls dd H', Stp B H B' H' → ExR K B' H' e cls dd → W cls dd σ H'
  | .no => False
/-- arguments, borrowed: read in the heap -/
def tAh (K : PySem.W.Frag) (W : WX) (f : EA) : TA := fun σ H Q => ∃ B ss fps, Pi K B σ H ss fps ∧ match f ss with
  | .ok ds => ∀ B' vs H', Stp B H B' H' → Reps K H' ds vs → Q vs H'
  | .exc e => ∀ B' cls dd H', Stp B H B' H' → ExR K B' H' e cls dd → W cls dd σ H'
  | .no => False

/-- the state of a def's body: entered at (B0, H0) -/
structure SI (K : PySem.W.Frag) (B0 H0 B : Hp) (σ : St) (H : Hp) (ss : En) (fps : List (List Addr)) : Prop where
  pi : Pi K B σ H ss fps
  st : Stp B0 H0 B H
  fr : ∀ a ∈ fps.flatten, H0 a = none
section
variable {K : PySem.W.Frag} {B0 H0 B B' H H' : Hp} {σ : St} {ss : En} {fps : List (List Addr)}
theorem SI.step (h : SI K B0 H0 B σ H ss fps) (s : Stp B H B' H') : SI K B0 H0 B' σ H' ss fps := ⟨h.pi.step s, h.st.trans s, h.fr⟩
end
/-- a statement's reading -/
def tS (K : PySem.W.Frag) (W : WX) (F : SM) : TS := fun E σ H => ∃ B0 H0 B ss fps, SI K B0 H0 B σ H ss fps ∧ match F ss with
  | .nx ss' => ∀ B' σ' H' fps', SI K B0 H0 B' σ' H' ss' fps' → E.nx σ' H'
  | .bk ss' => ∀ B' σ' H' fps', SI K B0 H0 B' σ' H' ss' fps' → E.bk σ' H'
  | .ct ss' => ∀ B' σ' H' fps', SI K B0 H0 B' σ' H' ss' fps' → E.ct σ' H'
  | .rt n d => ∀ B' v H' fp, Stp B0 H0 B' H' → New K H0 B' H' n d v fp → E.rt v H'
  | .exc e ss' => ∀ B' σ' H' fps' cls dd, SI K B0 H0 B' σ' H' ss' fps' → ExR K B' H' e cls dd → W cls dd σ' H'
  | .no => False

/-! ### weakening -/
theorem pe_w {X : Cx} {e : Expr} {t u : TE} (h : PE X e t) (k : ∀ σ H Q, u σ H Q → t σ H Q) : PE X e u := ⟨fun pins s σ H Q I q => h.run pins s σ H Q I (k σ H Q q)⟩
theorem pt_w {X : Cx} {e : Expr} {t u : TT} (h : PT X e t) (k : ∀ σ H Q, u σ H Q → t σ H Q) : PT X e u := ⟨fun pins s σ H Q I q => h.run pins s σ H Q I (k σ H Q q)⟩
theorem pw_w {X : Cx} {e : Expr} {t u : TT} (h : PW X e t) (k : ∀ σ H Q, u σ H Q → t σ H Q) : PW X e u := ⟨fun wh pins s σ H Q I q => h.run wh pins s σ H Q I (k σ H Q q)⟩
theorem pa_w {X : Cx} {es : List Expr} {t u : TA} (h : PA X es t) (k : ∀ σ H Q, u σ H Q → t σ H Q) : PA X es u := ⟨fun pos pins s σ H Q I q => h.run pos pins s σ H Q I (k σ H Q q)⟩
theorem ps_w {X : Cx} {st : Stmt} {t u : TS} (h : PS X st t) (k : ∀ D σ H, u D σ H → t D σ H) : PS X st u := ⟨fun pins s σ H D I q => h.run pins s σ H D I (k D σ H q)⟩
theorem pss_w {X : Cx} {st : List Stmt} {t u : TS} (h : PSs X st t) (k : ∀ D σ H, u D σ H → t D σ H) : PSs X st u := ⟨fun pins s σ H D I q => h.run pins s σ H D I (k D σ H q)⟩
end Mv

namespace Mv
open PySem L2

section
variable {K : PySem.W.Frag} {W : WX} {σ : L2.St} {H : Hp} {Q : VK}

/-! ### the mirrors of expressions -/
def frzE (f : EB) : EB := fun ss => match f ss with
  | .ok (_, d) => .ok (0, d)
  | .exc e => .exc e
  | .no => .no
def own0 (f : EB) : EB := fun ss => match f ss with
  | .ok (0, d) => .ok (0, d)
  | .ok (_, _) => .no
  | .exc e => .exc e
  | .no => .no
def eVar (i : Nat) : EB := fun ss => match ss[i]? with
  | some (.v n d) => .ok (n, d)
  | _ => .no
def eC (d : D) : EB := fun _ => .ok (0, d)
def eOp (g : D → D → Option D) (f1 f2 : EB) : EB := fun ss => match f1 ss with
  | .ok (_, a) => (match f2 ss with
    | .ok (_, b) => (match g a b with
      | some d => .ok (0, d)
      | none => .no)
    | .exc e => .exc e
    | .no => .no)
  | .exc e => .exc e
  | .no => .no
def eUn (g : D → Option D) (f1 : EB) : EB := fun ss => match f1 ss with
  | .ok (_, a) => (match g a with
      | some d => .ok (0, d)
      | none => .no)
  | .exc e => .exc e
  | .no => .no
def eTest (f : EB) : ET := fun ss => match f ss with
  | .ok (_, .bl b) => .ok b
  | .ok (_, _) => .no
  | .exc e => .exc e
  | .no => .no
def aNil : EA := fun _ => .ok []
def aCons (f : EB) (g : EA) : EA := fun ss => match f ss with
  | .ok (_, d) => (match g ss with
    | .ok ds => .ok (d :: ds)
    | .exc e => .exc e
    | .no => .no)
  | .exc e => .exc e
  | .no => .no

/-! ### what a wish says, case by case -/
theorem tB_ok {B : Hp} {ss : En} {fps : List (List Addr)} {f : EB} {n : Nat} {d : D} (pi : Pi K B σ H ss fps) (h : f ss = .ok (n, d)) (k : ∀ B' v H', Stp B H B' H' → Bw K B' H' n d v → Q v H') : tB K W f σ H Q :=
  ⟨B, ss, fps, pi, by rw [h]; exact k⟩
theorem tB_exc {B : Hp} {ss : En} {fps : List (List Addr)} {f : EB} {e : Exo} (pi : Pi K B σ H ss fps) (h : f ss = .exc e) (k : ∀ B' cls dd H', Stp B H B' H' → ExR K B' H' e cls dd → W cls dd σ H') : tB K W f σ H Q :=
  ⟨B, ss, fps, pi, by rw [h]; exact k⟩
/-- how a reading by tB is shown: from its state, by what f answers there -/
theorem tB_cut {f g : EB} {Q' : VK} (h : tB K W g σ H Q')
    (k : ∀ B ss fps, Pi K B σ H ss fps → (match g ss with
      | .ok (n, d) => ∀ B' v H', Stp B H B' H' → Bw K B' H' n d v → Q' v H'
      | .exc e => ∀ B' cls dd H', Stp B H B' H' → ExR K B' H' e cls dd → W cls dd σ H'
      | .no => False) → (match f ss with
      | .ok (n, d) => ∀ B' v H', Stp B H B' H' → Bw K B' H' n d v → Q v H'
      | .exc e => ∀ B' cls dd H', Stp B H B' H' → ExR K B' H' e cls dd → W cls dd σ H'
      | .no => False)) : tB K W f σ H Q := by
  obtain ⟨B, ss, fps, pi, q⟩ := h
  exact ⟨B, ss, fps, pi, k B ss fps pi q⟩
end

section
variable {X : Cx} {W : WX} {e a b c : Expr} {pos : Pos} {f f1 f2 f3 : EB}
theorem b_of_m (h : PE X e (tM X.K W f)) : PE X e (tB X.K W (frzE f)) := by
  refine pe_w h fun σ H Q hq => ?_
  obtain ⟨B, ss, fps, pi, k⟩ := hq
  refine ⟨B, ss, fps, pi, ?_⟩
  unfold frzE at k
  cases hf : f ss with
  | ok r =>
    obtain ⟨n, d⟩ := r
    rw [hf] at k
    intro B' v H' fp st nw
    obtain ⟨B2, q1, q2, q3, q4⟩ := nw.freeze st.bh
    exact k B2 v H' ⟨st.bb.trans q1, st.hh, q2, fun a z1 z2 => q4 a (st.dj a z1 z2) z2⟩ (bw0 q3)
  | exc e => rw [hf] at k; exact k
  | no => rw [hf] at k; exact k
theorem m_of_b (h : PE X e (tB X.K W f)) : PE X e (tM X.K W (own0 f)) := by
  refine pe_w h fun σ H Q hq => ?_
  obtain ⟨B, ss, fps, pi, k⟩ := hq
  refine ⟨B, ss, fps, pi, ?_⟩
  unfold own0 at k
  cases hf : f ss with
  | ok r =>
    obtain ⟨n, d⟩ := r
    rw [hf] at k
    cases n with
    | zero =>
      intro B' v H' st bw
      exact k B' v H' [] st ⟨⟨rfl, bw.rep⟩, List.nodup_nil, fun a z => nomatch z⟩
    | succ n => exact k.elim
  | exc e => rw [hf] at k; exact k
  | no => rw [hf] at k; exact k
theorem b_var (i : Nat) {x : Str} (hN : X.N[i]? = some x := by rfl) (hv : Vis X.env.scope x := by first | exact Or.inl rfl | exact Or.inr (Or.inl rfl) | exact Or.inr (Or.inr rfl)) (hd : (x == ("__debug__" : Str)) = false := by decide)
    (hcd : (x == ("__classdict__" : Str)) = false := by decide) : PE X (.Name x pos) (tB X.K W (eVar i)) := by
  refine pe_w (pe_var hN hv hd hcd) fun σ H Q hq => ?_
  obtain ⟨B, ss, fps, pi, k⟩ := hq
  unfold eVar at k
  cases hs : ss[i]? with
  | none => rw [hs] at k; exact k.elim
  | some s =>
    rw [hs] at k
    cases s with
    | un => exact k.elim
    | v n d =>
      obtain ⟨v, h1, h2⟩ := pi.get hs
      exact ⟨v, h1, k B v H (.refl pi.bh) h2⟩
theorem b_c {v : V} {d : D} (h : PE X e (tC v)) (r : ∀ B, Rep X.K B d v) : PE X e (tB X.K W (eC d)) := by
  refine pe_w h fun σ H Q hq => ?_
  obtain ⟨B, ss, fps, pi, k⟩ := hq
  exact k B v H (.refl pi.bh) (bw0 (r B))
theorem b_int {i : Int} {j : Nat} : PE X (.Constant (.int i) j pos) (tB X.K W (eC (.int i))) := b_c pe_int fun _ => rep_int
theorem b_bl {i : Bool} {j : Nat} : PE X (.Constant (.bool i) j pos) (tB X.K W (eC (.bl i))) := b_c pe_bl fun _ => rep_bl
theorem b_non {j : Nat} : PE X (.Constant .none j pos) (tB X.K W (eC .non)) := b_c pe_non fun _ => rep_non
theorem b_str {i : Str} {j : Nat} : PE X (.Constant (.str i) j pos) (tB X.K W (eC (.str i))) := b_c pe_str fun _ => rep_str

/-! ### operations with flat answers -/
def OpOk (K : PySem.W.Frag) (r : R2) (g : D → D → Option D) : Prop := ∀ (H : Hp) (da db d : D) (x y : V) (Q : VK), Rep K H da x → Rep K H db y → g da db = some d → (∀ v, (∀ B, Rep K B d v) → Q v H) → r x y H Q
theorem op_of {r : R2} {g : D → D → Option D} (hg : OpOk X.K r g) (σ : L2.St) (H : Hp) (Q : VK) (hq : tB X.K W (eOp g f1 f2) σ H Q) : tOp r (tB X.K W f1) (tB X.K W f2) σ H Q := by
  refine tB_cut hq fun B ss fps pi k => ?_
  unfold eOp at k
  cases h1 : f1 ss with
  | ok r1 =>
    obtain ⟨n1, d1⟩ := r1
    rw [h1] at k
    intro B1 x H1 s1 bx
    cases h2 : f2 ss with
    | ok r2 =>
      obtain ⟨n2, d2⟩ := r2
      rw [h2] at k
      refine tB_ok (pi.step s1) h2 fun B2 y H2 s2 bY => ?_
      cases hh : g d1 d2 with
      | some d =>
        simp only [hh] at k
        exact hg H2 d1 d2 d x y Q ((bx.le s2.bb s2.hh).here s2.bh) (bY.here s2.bh) hh fun v rv => k B2 v H2 (s1.trans s2) (bw0 (rv B2))
      | none => simp only [hh] at k
    | exc e =>
      rw [h2] at k
      exact tB_exc (pi.step s1) h2 fun B2 cls dd H2 s2 ex => k B2 cls dd H2 (s1.trans s2) ex
    | no => rw [h2] at k; exact k.elim
  | exc e => rw [h1] at k; exact k
  | no => rw [h1] at k; exact k
theorem b_op {op : Operator} {r : R2} {g : D → D → Option D} (ho : OpR X (binaryOp op) r) (hg : OpOk X.K r g) (ha : PE X a (tB X.K W f1)) (hb : PE X b (tB X.K W f2)) : PE X (.BinOp a op b pos) (tB X.K W (eOp g f1 f2)) :=
  pe_w (pe_op ho ha hb) fun σ H Q hq => op_of hg σ H Q hq
theorem b_cmp {op : CmpOp} {r : R2} {g : D → D → Option D} (ho : OpR X (compareOp op) r) (hg : OpOk X.K r g) (ha : PE X a (tB X.K W f1)) (hb : PE X b (tB X.K W f2)) (hm : behindInMarks op b = false) : PE X (.Compare a [op] [b] pos) (tB X.K W (eOp g f1 f2)) :=
  pe_w (pe_cmpR ho ha hb hm) fun σ H Q hq => op_of hg σ H Q hq
theorem test_of {f : EB} {σ : L2.St} {H : Hp} {Q : Bool → Hp → Prop} (hq : tT X.K W (eTest f) σ H Q) : tB X.K W f σ H (fun x H' => ∃ k, x = .bl k ∧ Q k H') := by
  obtain ⟨B, ss, fps, pi, k⟩ := hq
  refine ⟨B, ss, fps, pi, ?_⟩
  unfold eTest at k
  cases h1 : f ss with
  | ok r =>
    obtain ⟨n, d⟩ := r
    rw [h1] at k
    cases d <;> first | exact k.elim | skip
    rename_i b
    intro B' v H' st bw
    have e := bw.flat (B' := B') rfl
    rw [Rep] at e
    exact ⟨b, e, k B' H' st⟩
  | exc e => rw [h1] at k; exact k
  | no => rw [h1] at k; exact k
theorem t_cmp {op : CmpOp} {r : R2} {g : D → D → Option D} (ho : OpR X (compareOp op) r) (hg : OpOk X.K r g) (ha : PE X a (tB X.K W f1)) (hb : PE X b (tB X.K W f2)) (hm : behindInMarks op b = false) : PT X (.Compare a [op] [b] pos) (tT X.K W (eTest (eOp g f1 f2))) :=
  pt_w (pt_cmpR ho ha hb hm) fun σ H Q hq => op_of hg σ H _ (test_of hq)
theorem t_val (h : PE X e (tB X.K W f)) (he : ∀ whole, isTrue e X.env whole = (do let v ← whole; standAt e.pos; holding [v] (truthy v)) := by intro _; rfl) : PT X e (tT X.K W (eTest f)) :=
  pt_w (pt_val h he) fun σ H Q hq => test_of hq

/-! ### truth: and, or, not, if -/
def tyAnd (f g : ET) : ET := fun ss => match f ss with
  | .ok true => g ss
  | o => o
def tyOr (f g : ET) : ET := fun ss => match f ss with
  | .ok false => g ss
  | o => o
def tyNot (f : ET) : ET := fun ss => match f ss with
  | .ok b => .ok (!b)
  | o => o
variable {t1 t2 : ET}
theorem tT_step {K : PySem.W.Frag} {W : WX} {σ : L2.St} {H B B1 H1 : Hp} {ss : En} {fps : List (List Addr)} {f : ET} {Q : Bool → Hp → Prop} (pi : Pi K B σ H ss fps) (s1 : Stp B H B1 H1)
    (k : match f ss with
      | .ok b => ∀ B' H', Stp B H B' H' → Q b H'
      | .exc e => ∀ B' cls dd H', Stp B H B' H' → ExR K B' H' e cls dd → W cls dd σ H'
      | .no => False) : tT K W f σ H1 Q := by
  refine ⟨B1, ss, fps, pi.step s1, ?_⟩
  cases h : f ss with
  | ok b => rw [h] at k; exact fun B' H' s => k B' H' (s1.trans s)
  | exc e => rw [h] at k; exact fun B' cls dd H' s ex => k B' cls dd H' (s1.trans s) ex
  | no => rw [h] at k; exact k.elim
theorem and_of {σ : L2.St} {H : Hp} {Q : Bool → Hp → Prop} (hq : tT X.K W (tyAnd t1 t2) σ H Q) : tAnd (tT X.K W t1) (tT X.K W t2) σ H Q := by
  obtain ⟨B, ss, fps, pi, k⟩ := hq
  refine ⟨B, ss, fps, pi, ?_⟩
  unfold tyAnd at k
  cases h : t1 ss with
  | ok b =>
    rw [h] at k
    cases b with
    | true => exact fun B1 H1 s1 => tT_step pi s1 k
    | false => exact fun B1 H1 s1 => k B1 H1 s1
  | exc e => rw [h] at k; exact k
  | no => rw [h] at k; exact k
theorem or_of {σ : L2.St} {H : Hp} {Q : Bool → Hp → Prop} (hq : tT X.K W (tyOr t1 t2) σ H Q) : tOr (tT X.K W t1) (tT X.K W t2) σ H Q := by
  obtain ⟨B, ss, fps, pi, k⟩ := hq
  refine ⟨B, ss, fps, pi, ?_⟩
  unfold tyOr at k
  cases h : t1 ss with
  | ok b =>
    rw [h] at k
    cases b with
    | false => exact fun B1 H1 s1 => tT_step pi s1 k
    | true => exact fun B1 H1 s1 => k B1 H1 s1
  | exc e => rw [h] at k; exact k
  | no => rw [h] at k; exact k
theorem not_of {σ : L2.St} {H : Hp} {Q : Bool → Hp → Prop} (hq : tT X.K W (tyNot t1) σ H Q) : tNot (tT X.K W t1) σ H Q := by
  obtain ⟨B, ss, fps, pi, k⟩ := hq
  refine ⟨B, ss, fps, pi, ?_⟩
  unfold tyNot at k
  cases h : t1 ss with
  | ok b => rw [h] at k; exact k
  | exc e => rw [h] at k; exact k
  | no => rw [h] at k; exact k
variable {rest : List Expr}
theorem w_and1 (ha : PT X a (tT X.K W t1)) : PW X (.BoolOp .And [a] pos) (tT X.K W t1) := pw_and1 ha
theorem w_or1 (ha : PT X a (tT X.K W t1)) : PW X (.BoolOp .Or [a] pos) (tT X.K W t1) := pw_or1 ha
theorem w_and (ha : PT X a (tT X.K W t1)) (hb : PW X (.BoolOp .And (b :: rest) pos) (tT X.K W t2)) : PW X (.BoolOp .And (a :: b :: rest) pos) (tT X.K W (tyAnd t1 t2)) := pw_w (pw_and ha hb) fun σ H Q hq => and_of hq
theorem w_or (ha : PT X a (tT X.K W t1)) (hb : PW X (.BoolOp .Or (b :: rest) pos) (tT X.K W t2)) : PW X (.BoolOp .Or (a :: b :: rest) pos) (tT X.K W (tyOr t1 t2)) := pw_w (pw_or ha hb) fun σ H Q hq => or_of hq
theorem t_not (ha : PT X a (tT X.K W t1)) : PT X (.UnaryOp .Not a pos) (tT X.K W (tyNot t1)) := pt_w (pt_not ha) fun σ H Q hq => not_of hq
/-- values: all but the last True or False -/
def eAnd (f g : EB) : EB := fun ss => match f ss with
  | .ok (_, .bl true) => g ss
  | .ok (_, .bl false) => .ok (0, .bl false)
  | .ok (_, _) => .no
  | .exc e => .exc e
  | .no => .no
def eOr (f g : EB) : EB := fun ss => match f ss with
  | .ok (_, .bl false) => g ss
  | .ok (_, .bl true) => .ok (0, .bl true)
  | .ok (_, _) => .no
  | .exc e => .exc e
  | .no => .no
def eNot (f : EB) : EB := fun ss => match f ss with
  | .ok (_, .bl b) => .ok (0, .bl (!b))
  | .ok (_, _) => .no
  | .exc e => .exc e
  | .no => .no
def eIf (t : ET) (f g : EB) : EB := fun ss => match t ss with
  | .ok true => f ss
  | .ok false => g ss
  | .exc e => .exc e
  | .no => .no
theorem tB_step {K : PySem.W.Frag} {W : WX} {σ : L2.St} {H B B1 H1 : Hp} {ss : En} {fps : List (List Addr)} {f : EB} {Q : VK} (pi : Pi K B σ H ss fps) (s1 : Stp B H B1 H1)
    (k : match f ss with
      | .ok (n, d) => ∀ B' v H', Stp B H B' H' → Bw K B' H' n d v → Q v H'
      | .exc e => ∀ B' cls dd H', Stp B H B' H' → ExR K B' H' e cls dd → W cls dd σ H'
      | .no => False) : tB K W f σ H1 Q := by
  refine ⟨B1, ss, fps, pi.step s1, ?_⟩
  cases h : f ss with
  | ok r => obtain ⟨n, d⟩ := r; rw [h] at k; exact fun B' v H' s bw => k B' v H' (s1.trans s) bw
  | exc e => rw [h] at k; exact fun B' cls dd H' s ex => k B' cls dd H' (s1.trans s) ex
  | no => rw [h] at k; exact k.elim
theorem tM_step {K : PySem.W.Frag} {W : WX} {σ : L2.St} {H B B1 H1 : Hp} {ss : En} {fps : List (List Addr)} {f : EB} {Q : VK} (pi : Pi K B σ H ss fps) (s1 : Stp B H B1 H1)
    (k : match f ss with
      | .ok (n, d) => ∀ B' v H' fp, Stp B H B' H' → New K H B' H' n d v fp → Q v H'
      | .exc e => ∀ B' cls dd H', Stp B H B' H' → ExR K B' H' e cls dd → W cls dd σ H'
      | .no => False) : tM K W f σ H1 Q := by
  refine ⟨B1, ss, fps, pi.step s1, ?_⟩
  cases h : f ss with
  | ok r => obtain ⟨n, d⟩ := r; rw [h] at k; exact fun B' v H' fp s nw => k B' v H' fp (s1.trans s) ⟨nw.ow, nw.nd, fun a ha => ⟨(nw.fr a ha).1, s1.hh.back (nw.fr a ha).2⟩⟩
  | exc e => rw [h] at k; exact fun B' cls dd H' s ex => k B' cls dd H' (s1.trans s) ex
  | no => rw [h] at k; exact k.elim
theorem b_one {op : BoolOp} (h : PE X a (tB X.K W f)) : PE X (.BoolOp op [a] pos) (tB X.K W f) := pe_one h
theorem b_and (ha : PE X a (tB X.K W f1)) (hb : PE X (.BoolOp .And (b :: rest) pos) (tB X.K W f2)) : PE X (.BoolOp .And (a :: b :: rest) pos) (tB X.K W (eAnd f1 f2)) := by
  refine pe_w (pe_and ha hb) fun σ H Q hq => tB_cut hq fun B ss fps pi k => ?_
  unfold eAnd at k
  cases h : f1 ss with
  | ok r =>
    obtain ⟨n, d⟩ := r
    rw [h] at k
    cases d <;> first | exact k.elim | skip
    rename_i b
    intro B1 v H1 s1 bw
    have e := bw.flat (B' := B1) rfl
    rw [Rep] at e
    refine ⟨b, e, ?_⟩
    cases b with
    | true => exact tB_step pi s1 k
    | false => exact k B1 _ H1 s1 (bw0 rep_bl)
  | exc e => rw [h] at k; exact k
  | no => rw [h] at k; exact k
theorem b_or (ha : PE X a (tB X.K W f1)) (hb : PE X (.BoolOp .Or (b :: rest) pos) (tB X.K W f2)) : PE X (.BoolOp .Or (a :: b :: rest) pos) (tB X.K W (eOr f1 f2)) := by
  refine pe_w (pe_or ha hb) fun σ H Q hq => tB_cut hq fun B ss fps pi k => ?_
  unfold eOr at k
  cases h : f1 ss with
  | ok r =>
    obtain ⟨n, d⟩ := r
    rw [h] at k
    cases d <;> first | exact k.elim | skip
    rename_i b
    intro B1 v H1 s1 bw
    have e := bw.flat (B' := B1) rfl
    rw [Rep] at e
    refine ⟨b, e, ?_⟩
    cases b with
    | false => exact tB_step pi s1 k
    | true => exact k B1 _ H1 s1 (bw0 rep_bl)
  | exc e => rw [h] at k; exact k
  | no => rw [h] at k; exact k
theorem b_not (ha : PE X a (tB X.K W f)) : PE X (.UnaryOp .Not a pos) (tB X.K W (eNot f)) := by
  refine pe_w (pe_not ha) fun σ H Q hq => tB_cut hq fun B ss fps pi k => ?_
  unfold eNot at k
  cases h : f ss with
  | ok r =>
    obtain ⟨n, d⟩ := r
    rw [h] at k
    cases d <;> first | exact k.elim | skip
    rename_i b
    intro B1 v H1 s1 bw
    have e := bw.flat (B' := B1) rfl
    rw [Rep] at e
    exact ⟨b, e, k B1 _ H1 s1 (bw0 rep_bl)⟩
  | exc e => rw [h] at k; exact k
  | no => rw [h] at k; exact k
theorem b_if (hc : PT X c (tT X.K W t1)) (ha : PE X a (tB X.K W f1)) (hb : PE X b (tB X.K W f2)) : PE X (.IfExp c a b pos) (tB X.K W (eIf t1 f1 f2)) := by
  refine pe_w (pe_ifExp hc ha hb) fun σ H Q hq => ?_
  obtain ⟨B, ss, fps, pi, k⟩ := hq
  refine ⟨B, ss, fps, pi, ?_⟩
  unfold eIf at k
  cases h : t1 ss with
  | ok b =>
    rw [h] at k
    cases b with
    | true => exact fun B1 H1 s1 => tB_step pi s1 k
    | false => exact fun B1 H1 s1 => tB_step pi s1 k
  | exc e => rw [h] at k; exact k
  | no => rw [h] at k; exact k

/-! ### one-place operations, arguments -/
def UnOk (K : PySem.W.Frag) (r : V → Hp → VK → Prop) (g : D → Option D) : Prop := ∀ (H : Hp) (da d : D) (x : V) (Q : VK), Rep K H da x → g da = some d → (∀ v, (∀ B, Rep K B d v) → Q v H) → r x H Q
theorem b_un {op : UnaryOp} {r : V → Hp → VK → Prop} {g : D → Option D} (ho : UnR X (unaryOp op) r) (hg : UnOk X.K r g) (ha : PE X a (tB X.K W f)) : PE X (.UnaryOp op a pos) (tB X.K W (eUn g f)) := by
  refine pe_w (pe_un ho ha) fun σ H Q hq => tB_cut hq fun B ss fps pi k => ?_
  unfold eUn at k
  cases h : f ss with
  | ok r =>
    obtain ⟨n, d⟩ := r
    rw [h] at k
    intro B1 v H1 s1 bw
    cases hh : g d with
    | some d2 =>
      simp only [hh] at k
      exact hg H1 d d2 v Q (bw.here s1.bh) hh fun v rv => k B1 v H1 s1 (bw0 (rv B1))
    | none => simp only [hh] at k
  | exc e => rw [h] at k; exact k
  | no => rw [h] at k; exact k
variable {es : List Expr} {g1 g2 : EA}
theorem ah_nil : PA X [] (tAh X.K W aNil) := by
  refine pa_w pa_nil fun σ H Q hq => ?_
  obtain ⟨B, ss, fps, pi, k⟩ := hq
  exact k B [] H (.refl pi.bh) reps_nil
theorem ah_cons (ha : PE X e (tB X.K W f)) (hr : PA X es (tAh X.K W g1)) (hs : starEach (e :: es) X.env = (false, eval e X.env) :: starEach es X.env := by rfl) : PA X (e :: es) (tAh X.K W (aCons f g1)) := by
  refine pa_w (pa_cons ha hr hs) fun σ H Q hq => ?_
  obtain ⟨B, ss, fps, pi, k⟩ := hq
  refine ⟨B, ss, fps, pi, ?_⟩
  unfold aCons at k
  cases h : f ss with
  | ok r =>
    obtain ⟨n, d⟩ := r
    rw [h] at k
    intro B1 v H1 s1 bw
    refine ⟨B1, ss, fps, pi.step s1, ?_⟩
    cases h2 : g1 ss with
    | ok ds =>
      rw [h2] at k
      intro B2 vs H2 s2 rs
      exact k B2 (v :: vs) H2 (s1.trans s2) (reps_cons (Rep.mono s2.hh _ _ (bw.here s1.bh)) rs)
    | exc e => rw [h2] at k; exact fun B2 cls dd H2 s2 ex => k B2 cls dd H2 (s1.trans s2) ex
    | no => rw [h2] at k; exact k.elim
  | exc e => rw [h] at k; exact k
  | no => rw [h] at k; exact k
/-- arguments that stand in the base: each item of depth 0 -/
def a0Cons (f : EB) (g : EA) : EA := fun ss => match f ss with
  | .ok (0, d) => (match g ss with
    | .ok ds => .ok (d :: ds)
    | .exc e => .exc e
    | .no => .no)
  | .ok (_, _) => .no
  | .exc e => .exc e
  | .no => .no
theorem a_nil : PA X [] (tA X.K W aNil) := by
  refine pa_w pa_nil fun σ H Q hq => ?_
  obtain ⟨B, ss, fps, pi, k⟩ := hq
  exact k B [] H (.refl pi.bh) reps_nil
theorem a_cons (ha : PE X e (tB X.K W f)) (hr : PA X es (tA X.K W g1)) (hs : starEach (e :: es) X.env = (false, eval e X.env) :: starEach es X.env := by rfl) : PA X (e :: es) (tA X.K W (a0Cons f g1)) := by
  refine pa_w (pa_cons ha hr hs) fun σ H Q hq => ?_
  obtain ⟨B, ss, fps, pi, k⟩ := hq
  refine ⟨B, ss, fps, pi, ?_⟩
  unfold a0Cons at k
  cases h : f ss with
  | ok r =>
    obtain ⟨n, d⟩ := r
    rw [h] at k
    cases n with
    | zero =>
      intro B1 v H1 s1 bw
      refine ⟨B1, ss, fps, pi.step s1, ?_⟩
      cases h2 : g1 ss with
      | ok ds =>
        simp only [h2] at k
        intro B2 vs H2 s2 rs
        exact k B2 (v :: vs) H2 (s1.trans s2) (reps_cons (Rep.mono s2.bb _ _ bw.rep) rs)
      | exc e => simp only [h2] at k; exact fun B2 cls dd H2 s2 ex => k B2 cls dd H2 (s1.trans s2) ex
      | no => simp only [h2] at k
    | succ n => exact k.elim
  | exc e => rw [h] at k; exact k
  | no => rw [h] at k; exact k

/-! ### built-in functions with flat answers -/
def eCall (g : List D → Option D) (ga : EA) : EB := fun ss => match ga ss with
  | .ok ds => (match g ds with
    | some d => .ok (0, d)
    | none => .no)
  | .exc e => .exc e
  | .no => .no
def ClOk (K : PySem.W.Frag) (r : List V → Hp → VK → Prop) (g : List D → Option D) : Prop := ∀ (H : Hp) (ds : List D) (d : D) (vs : List V) (Q : VK), Reps K H ds vs → g ds = some d → (∀ v, (∀ B, Rep K B d v) → Q v H) → r vs H Q
theorem call_of {r : List V → Hp → VK → Prop} {g : List D → Option D} (hg : ClOk X.K r g) (σ : L2.St) (H : Hp) (Q : VK) (hq : tB X.K W (eCall g g1) σ H Q) : tCB r (tAh X.K W g1) σ H Q := by
  obtain ⟨B, ss, fps, pi, k⟩ := hq
  refine ⟨B, ss, fps, pi, ?_⟩
  unfold eCall at k
  cases h : g1 ss with
  | ok ds =>
    rw [h] at k
    intro B1 vs H1 s1 rs
    cases hh : g ds with
    | some d =>
      simp only [hh] at k
      exact hg H1 ds d vs Q rs hh fun v rv => k B1 v H1 s1 (bw0 (rv B1))
    | none => simp only [hh] at k
  | exc e => rw [h] at k; exact k
  | no => rw [h] at k; exact k
variable {x : Str} {p : Pos} {id T : String}
theorem b_callB {r : List V → Hp → VK → Prop} {g : List D → Option D} (hc : CallR X (.builtin id) r) (hg : ClOk X.K r g) (hgl : Gl X x) (hm : X.mg x = none) (hv : bootBuiltins x = some (.builtin id)) (ha : PA X (e :: es) (tAh X.K W g1)) (hn : x ≠ "__name__" := by decide) (hdb : (x == ("__debug__" : Str)) = false := by decide)
    (he : starEach (e :: es) X.env = (false, eval e X.env) :: starEach es X.env := by rfl) (hpl : (backTo pos (starEach es X.env)).any (·.1) = false := by rfl) : PE X (.Call (.Name x p) (e :: es) [] pos) (tB X.K W (eCall g g1)) :=
  pe_w (pe_callB hc hgl hm hv ha hn hdb he hpl) fun σ H Q hq => call_of hg σ H Q hq
theorem b_callTy {r : List V → Hp → VK → Prop} {g : List D → Option D} (hc : CallR X (.type T) r) (hg : ClOk X.K r g) (hgl : Gl X x) (hm : X.mg x = none) (hv : bootBuiltins x = some (.type T)) (ha : PA X (e :: es) (tAh X.K W g1)) (hn : x ≠ "__name__" := by decide) (hdb : (x == ("__debug__" : Str)) = false := by decide)
    (he : starEach (e :: es) X.env = (false, eval e X.env) :: starEach es X.env := by rfl) (hpl : (backTo pos (starEach es X.env)).any (·.1) = false := by rfl) : PE X (.Call (.Name x p) (e :: es) [] pos) (tB X.K W (eCall g g1)) :=
  pe_w (pe_callTy hc hgl hm hv ha hn hdb he hpl) fun σ H Q hq => call_of hg σ H Q hq
end
end Mv

namespace Mv
open PySem L2

/-! ### operations on plain data -/
def gInt (f : Int → Int → D) : D → D → Option D
  | .int i, .int j => some (f i j)
  | _, _ => none
def gIntC (C : Int → Int → Bool) (f : Int → Int → D) : D → D → Option D
  | .int i, .int j => if C i j then some (f i j) else none
  | _, _ => none
section
variable {K : PySem.W.Frag}
theorem ok_int {u : Int → Int → V} {f : Int → Int → D} (r : ∀ i j B, Rep K B (f i j) (u i j)) : OpOk K (rI0 u) (gInt f) := by
  intro H da db d x y Q ra rb e k
  cases da <;> first | cases e | skip
  cases db <;> first | cases e | skip
  rw [Rep] at ra rb
  exact ⟨_, _, ra, rb, k _ (r _ _)⟩
theorem ok_intC {P : Int → Int → Prop} {C : Int → Int → Bool} {u : Int → Int → V} {f : Int → Int → D} (c : ∀ i j, C i j = true → P i j) (r : ∀ i j B, Rep K B (f i j) (u i j)) : OpOk K (rI P u) (gIntC C f) := by
  intro H da db d x y Q ra rb e k
  cases da <;> first | cases e | skip
  cases db <;> first | cases e | skip
  rename_i i j
  rw [Rep] at ra rb
  unfold gIntC at e
  by_cases hc : C i j = true
  · simp only [hc, if_true] at e
    cases e
    exact ⟨_, _, ra, rb, c _ _ hc, k _ (r _ _)⟩
  · simp only [hc] at e
    cases e
end
def gAdd : D → D → Option D := gInt fun i j => .int (i + j)
def gSub : D → D → Option D := gInt fun i j => .int (i - j)
def gMul : D → D → Option D := gIntC (fun i j => decide (i.natAbs.log2 + j.natAbs.log2 < 1000000)) fun i j => .int (i * j)
def gMod : D → D → Option D := gIntC (fun _ j => decide (0 < j)) fun i j => .int (i % j)
def gDiv : D → D → Option D := gIntC (fun _ j => decide (0 < j) && decide (j.natAbs.log2 < 9000)) fun i j => .int (i / j)
def gPow : D → D → Option D := gIntC (fun i j => decide (0 ≤ j) && (decide (j ≤ 1000000) && decide (i.natAbs < 2 ^ 64))) fun i j => .int (i ^ j.toNat)
def gLt : D → D → Option D := gInt fun i j => .bl (decide (i < j))
def gLe : D → D → Option D := gInt fun i j => .bl (decide (i ≤ j))
def gGt : D → D → Option D := gInt fun i j => .bl (decide (j < i))
def gGe : D → D → Option D := gInt fun i j => .bl (decide (j ≤ i))
section
variable {X : Cx} {W : WX} {a b c e : Expr} {pos : Pos} {f f1 f2 f3 : EB}
theorem b_add (ha : PE X a (tB X.K W f1)) (hb : PE X b (tB X.K W f2)) : PE X (.BinOp a .Add b pos) (tB X.K W (eOp gAdd f1 f2)) := b_op op_add (ok_int fun _ _ _ => rep_int) ha hb
theorem b_sub (ha : PE X a (tB X.K W f1)) (hb : PE X b (tB X.K W f2)) : PE X (.BinOp a .Sub b pos) (tB X.K W (eOp gSub f1 f2)) := b_op op_sub (ok_int fun _ _ _ => rep_int) ha hb
theorem b_mul (ha : PE X a (tB X.K W f1)) (hb : PE X b (tB X.K W f2)) : PE X (.BinOp a .Mult b pos) (tB X.K W (eOp gMul f1 f2)) := b_op op_mulW (ok_intC (fun i j h => by have q : i.natAbs.log2 + j.natAbs.log2 < 1000000 := of_decide_eq_true h; exact q) fun _ _ _ => rep_int) ha hb
theorem b_mod (ha : PE X a (tB X.K W f1)) (hb : PE X b (tB X.K W f2)) : PE X (.BinOp a .Mod b pos) (tB X.K W (eOp gMod f1 f2)) := b_op op_mod (ok_intC (fun _ _ h => of_decide_eq_true h) fun _ _ _ => rep_int) ha hb
theorem b_div (ha : PE X a (tB X.K W f1)) (hb : PE X b (tB X.K W f2)) : PE X (.BinOp a .FloorDiv b pos) (tB X.K W (eOp gDiv f1 f2)) :=
  b_op op_fdivW (ok_intC (fun _ _ h => by rw [Bool.and_eq_true] at h; exact ⟨of_decide_eq_true h.1, of_decide_eq_true h.2⟩) fun _ _ _ => rep_int) ha hb
theorem b_pow (ha : PE X a (tB X.K W f1)) (hb : PE X b (tB X.K W f2)) : PE X (.BinOp a .Pow b pos) (tB X.K W (eOp gPow f1 f2)) :=
  b_op op_pow (ok_intC (fun _ _ h => by rw [Bool.and_eq_true, Bool.and_eq_true] at h; exact ⟨of_decide_eq_true h.1, of_decide_eq_true h.2.1, of_decide_eq_true h.2.2⟩) fun _ _ _ => rep_int) ha hb
theorem ok_lt : OpOk X.K (rI0 fun i j => .bl (decide (i < j))) gLt := ok_int fun _ _ _ => rep_bl
theorem ok_le : OpOk X.K (rI0 fun i j => .bl (decide (i ≤ j))) gLe := ok_int fun _ _ _ => rep_bl
theorem ok_gt : OpOk X.K (rI0 fun i j => .bl (decide (j < i))) gGt := ok_int fun _ _ _ => rep_bl
theorem ok_ge : OpOk X.K (rI0 fun i j => .bl (decide (j ≤ i))) gGe := ok_int fun _ _ _ => rep_bl

/-! ### equality of plain data without truth values -/
end
mutual
def D.py : D → PyData
  | .non => .none
  | .bl b => .bool b
  | .int i => .int i
  | .str x => .str x
  | .lst ds => .list (pys ds)
  | .tup ds => .tuple (pys ds)
  | .rdl ds => .list (pys ds)
  | .ins _ _ => .none
  | .exo _ => .none
def pys : List D → List PyData
  | [] => []
  | d :: ds => d.py :: pys ds
end
mutual
/-- data of depth at most n, no truth values within -/
def pl : D → Nat → Bool
  | .non, _ => true
  | .int _, _ => true
  | .str x, _ => PyData.strOk x
  | .lst ds, n => decide (0 < n) && pls ds (n - 1)
  | .tup ds, n => decide (0 < n) && pls ds (n - 1)
  | .bl _, _ => false
  | .rdl _, _ => false
  | .ins _ _, _ => false
  | .exo _, _ => false
def pls : List D → Nat → Bool
  | [], _ => true
  | d :: ds, n => pl d n && pls ds n
end
section
variable {K : PySem.W.Frag} {H : Hp}
mutual
theorem dp_of : ∀ (d : D) (n : Nat) (v : V), pl d n = true → Rep K H d v → Dp K H v d.py
  | .non, n, v, h, r => by rw [Rep] at r; subst r; rw [D.py]; exact .non
  | .int i, n, v, h, r => by rw [Rep] at r; subst r; rw [D.py]; exact .int i
  | .str x, n, v, h, r => by rw [Rep] at r; subst r; rw [D.py]; exact .str x
  | .lst ds, n, v, h, r => by
    rw [Rep] at r; obtain ⟨a, xs, rfl, ha, rs⟩ := r
    rw [pl, Bool.and_eq_true] at h
    rw [D.py]; exact .lst (SqL.of ha) (dps_of ds _ xs h.2 rs)
  | .tup ds, n, v, h, r => by
    rw [Rep] at r; obtain ⟨a, xs, rfl, ha, rs⟩ := r
    rw [pl, Bool.and_eq_true] at h
    rw [D.py]; exact .tup (SqT.of ha) (dps_of ds _ xs h.2 rs)
  | .bl b, n, v, h, r => by rw [pl] at h; cases h
  | .rdl ds, n, v, h, r => by rw [pl] at h; cases h
  | .ins C fs, n, v, h, r => by rw [pl] at h; cases h
  | .exo a, n, v, h, r => by rw [pl] at h; cases h
theorem dps_of : ∀ (ds : List D) (n : Nat) (vs : List V), pls ds n = true → Reps K H ds vs → DpAll K H vs (pys ds)
  | [], n, vs, h, r => by rw [Reps] at r; subst r; rw [pys]; exact .nil
  | d :: ds, n, vs, h, r => by
    rw [Reps] at r; obtain ⟨v, us, rfl, r1, r2⟩ := r
    rw [pls, Bool.and_eq_true] at h
    rw [pys]; exact .cons (dp_of d n v h.1 r1) (dps_of ds n us h.2 r2)
end
end
theorem pl_bl {b : Bool} {n : Nat} : pl (.bl b) n = false := by rw [pl]
theorem pl_rdl {b : List D} {n : Nat} : pl (.rdl b) n = false := by rw [pl]
theorem pl_ins {C : Addr} {b : List (Str × D)} {n : Nat} : pl (.ins C b) n = false := by rw [pl]
theorem pl_exo {b : Addr} {n : Nat} : pl (.exo b) n = false := by rw [pl]
mutual
theorem lay_of : ∀ (d : D) (n : Nat), pl d n = true → d.py.canLay0 = true
  | .non, n, h => by rw [D.py, PyData.canLay0]
  | .int i, n, h => by rw [D.py, PyData.canLay0]
  | .str x, n, h => by rw [D.py, PyData.canLay0]; rw [pl] at h; exact h
  | .lst ds, n, h => by
    rw [pl, Bool.and_eq_true] at h
    rw [D.py, PyData.canLay0]; exact lays_of ds _ h.2
  | .tup ds, n, h => by
    rw [pl, Bool.and_eq_true] at h
    rw [D.py, PyData.canLay0]; exact lays_of ds _ h.2
  | .bl b, n, h => by rw [pl_bl] at h; cases h
  | .rdl ds, n, h => by rw [pl_rdl] at h; cases h
  | .ins C fs, n, h => by rw [pl_ins] at h; cases h
  | .exo a, n, h => by rw [pl_exo] at h; cases h
theorem lays_of : ∀ (ds : List D) (n : Nat), pls ds n = true → PyData.canLayAll0 (pys ds) = true
  | [], n, h => by rw [pys, PyData.canLayAll0]
  | d :: ds, n, h => by
    rw [pls, Bool.and_eq_true] at h
    rw [pys, PyData.canLayAll0, lay_of d n h.1, lays_of ds n h.2, Bool.and_self]
end
mutual
theorem dep_of : ∀ (d : D) (n : Nat), pl d n = true → d.py.depth ≤ n
  | .non, n, h => by rw [D.py, PyData.depth]; exact Nat.zero_le _
  | .int i, n, h => by rw [D.py, PyData.depth]; exact Nat.zero_le _
  | .str x, n, h => by rw [D.py, PyData.depth]; exact Nat.zero_le _
  | .lst ds, n, h => by
    rw [pl, Bool.and_eq_true] at h
    have h1 := of_decide_eq_true h.1
    have h2 := deps_of ds _ h.2
    rw [D.py, PyData.depth]; omega
  | .tup ds, n, h => by
    rw [pl, Bool.and_eq_true] at h
    have h1 := of_decide_eq_true h.1
    have h2 := deps_of ds _ h.2
    rw [D.py, PyData.depth]; omega
  | .bl b, n, h => by rw [pl_bl] at h; cases h
  | .rdl ds, n, h => by rw [pl_rdl] at h; cases h
  | .ins C fs, n, h => by rw [pl_ins] at h; cases h
  | .exo a, n, h => by rw [pl_exo] at h; cases h
theorem deps_of : ∀ (ds : List D) (n : Nat), pls ds n = true → PyData.depthAll (pys ds) ≤ n
  | [], n, h => by rw [pys, PyData.depthAll]; exact Nat.zero_le _
  | d :: ds, n, h => by
    rw [pls, Bool.and_eq_true] at h
    have h1 := dep_of d n h.1
    have h2 := deps_of ds n h.2
    rw [pys, PyData.depthAll]; omega
end
mutual
theorem eqv_of : ∀ (d e : D) (n m : Nat), pl d n = true → pl e m = true → (PyData.eqv d.py e.py = true ↔ d = e)
  | .non, e, n, m, h, h' => by
    cases e <;> first | (rw [pl_bl] at h'; cases h') | (rw [pl_rdl] at h'; cases h') | (rw [pl_ins] at h'; cases h') | (rw [pl_exo] at h'; cases h') | simp [D.py, PyData.eqv]
  | .int i, e, n, m, h, h' => by
    cases e <;> first | (rw [pl_bl] at h'; cases h') | (rw [pl_rdl] at h'; cases h') | (rw [pl_ins] at h'; cases h') | (rw [pl_exo] at h'; cases h') | simp [D.py, PyData.eqv]
  | .str x, e, n, m, h, h' => by
    cases e <;> first | (rw [pl_bl] at h'; cases h') | (rw [pl_rdl] at h'; cases h') | (rw [pl_ins] at h'; cases h') | (rw [pl_exo] at h'; cases h') | simp [D.py, PyData.eqv]
  | .lst ds, e, n, m, h, h' => by
    cases e <;> first | (rw [pl_bl] at h'; cases h') | (rw [pl_rdl] at h'; cases h') | (rw [pl_ins] at h'; cases h') | (rw [pl_exo] at h'; cases h') | skip
    case lst es =>
      rw [pl, Bool.and_eq_true] at h h'
      rw [D.py, D.py, PyData.eqv, eqvs_of ds es _ _ h.2 h'.2, D.lst.injEq]
    all_goals simp [D.py, PyData.eqv]
  | .tup ds, e, n, m, h, h' => by
    cases e <;> first | (rw [pl_bl] at h'; cases h') | (rw [pl_rdl] at h'; cases h') | (rw [pl_ins] at h'; cases h') | (rw [pl_exo] at h'; cases h') | skip
    case tup es =>
      rw [pl, Bool.and_eq_true] at h h'
      rw [D.py, D.py, PyData.eqv, eqvs_of ds es _ _ h.2 h'.2, D.tup.injEq]
    all_goals simp [D.py, PyData.eqv]
  | .bl b, e, n, m, h, h' => by rw [pl_bl] at h; cases h
  | .rdl ds, e, n, m, h, h' => by rw [pl_rdl] at h; cases h
  | .ins C fs, e, n, m, h, h' => by rw [pl_ins] at h; cases h
  | .exo a, e, n, m, h, h' => by rw [pl_exo] at h; cases h
theorem eqvs_of : ∀ (ds es : List D) (n m : Nat), pls ds n = true → pls es m = true → (PyData.eqvAll (pys ds) (pys es) = true ↔ ds = es)
  | [], [], n, m, _, _ => by simp [pys, PyData.eqvAll]
  | [], e :: es, n, m, _, _ => by simp [pys, PyData.eqvAll]
  | d :: ds, [], n, m, _, _ => by simp [pys, PyData.eqvAll]
  | d :: ds, e :: es, n, m, h, h' => by
    rw [pls, Bool.and_eq_true] at h h'
    rw [pys, pys, PyData.eqvAll, Bool.and_eq_true, eqv_of d e n m h.1 h'.1, eqvs_of ds es n m h.2 h'.2, List.cons.injEq]
end
open Classical in
noncomputable def gEq : D → D → Option D
  | .bl a, .bl b => some (.bl (a == b))
  | a, b => if pl a 60 = true ∧ pl b 60 = true then some (.bl (decide (a = b))) else none
noncomputable def gNe (a b : D) : Option D := match gEq a b with
  | some (.bl x) => some (.bl (!x))
  | _ => none
open Classical in
theorem gEq_pl {a b : D} (ha : pl a 60 = true) (hb : pl b 60 = true) : gEq a b = some (.bl (decide (a = b))) := by
  unfold gEq
  split
  · rw [pl_bl] at ha; cases ha
  · rw [if_pos ⟨ha, hb⟩]
def rEqA (K : PySem.W.Frag) : R2 := fun x y H Q => rEq x y H Q ∨ rEqD K x y H Q
def rNeA (K : PySem.W.Frag) : R2 := fun x y H Q => rNe x y H Q ∨ rNeD K x y H Q
open Classical in
theorem gEq_cases {a b d : D} (h : gEq a b = some d) : (∃ x y, a = .bl x ∧ b = .bl y ∧ d = .bl (x == y)) ∨ (pl a 60 = true ∧ pl b 60 = true ∧ d = .bl (decide (a = b))) := by
  unfold gEq at h
  split at h
  · exact .inl ⟨_, _, rfl, rfl, (Option.some.inj h).symm⟩
  · by_cases hp : pl a 60 = true ∧ pl b 60 = true
    · rw [if_pos hp] at h
      exact .inr ⟨hp.1, hp.2, (Option.some.inj h).symm⟩
    · rw [if_neg hp] at h
      cases h
theorem shaped_pl {a : D} (h : pl a 60 = true) : SeqAt.shaped a.py = true := by
  unfold SeqAt.shaped
  rw [Bool.and_eq_true]
  exact ⟨lay_of a 60 h, decide_eq_true (Nat.le_trans (dep_of a 60 h) (by decide))⟩
open Classical in
theorem eqv_dec {a b : D} (ha : pl a 60 = true) (hb : pl b 60 = true) : PyData.eqv a.py b.py = decide (a = b) := by
  by_cases e : a = b
  · rw [decide_eq_true e]; exact (eqv_of a b 60 60 ha hb).mpr e
  · rw [decide_eq_false e]
    cases h : PyData.eqv a.py b.py with
    | false => rfl
    | true => exact absurd ((eqv_of a b 60 60 ha hb).mp h) e
theorem ok_eq {K : PySem.W.Frag} : OpOk K (rEqA K) gEq := by
  intro H da db d x y Q ra rb e k
  rcases gEq_cases e with ⟨u, v, rfl, rfl, rfl⟩ | ⟨h1, h2, rfl⟩
  · rw [Rep] at ra rb
    subst ra rb
    refine .inl ⟨rfl, ?_⟩
    rw [dec_bl]
    exact k _ fun _ => rep_bl
  · refine .inr ⟨_, _, dp_of da 60 x h1 ra, dp_of db 60 y h2 rb, shaped_pl h1, shaped_pl h2, ?_⟩
    rw [eqv_dec h1 h2]
    exact k _ fun _ => rep_bl
theorem ok_ne {K : PySem.W.Frag} : OpOk K (rNeA K) gNe := by
  intro H da db d x y Q ra rb e k
  unfold gNe at e
  cases he : gEq da db with
  | none => rw [he] at e; cases e
  | some z =>
    rw [he] at e
    cases z <;> first | (cases e; done) | skip
    rename_i bz
    have ed : d = .bl (!bz) := (Option.some.inj e).symm
    subst ed
    rcases gEq_cases he with ⟨u, v, rfl, rfl, h3⟩ | ⟨h1, h2, h3⟩
    · rw [Rep] at ra rb
      subst ra rb
      refine .inl ⟨rfl, ?_⟩
      rw [dec_bl]
      cases h3
      exact k _ fun _ => rep_bl
    · refine .inr ⟨_, _, dp_of da 60 x h1 ra, dp_of db 60 y h2 rb, shaped_pl h1, shaped_pl h2, ?_⟩
      rw [eqv_dec h1 h2]
      cases h3
      exact k _ fun _ => rep_bl
section
variable {X : Cx} {W : WX} {a b c e : Expr} {pos : Pos} {f f1 f2 f3 : EB}
theorem op_eqA (hu : X.A.units + 64 < cLine) : OpR X (compareOp .Eq) (rEqA X.K) := OpR.or op_eq (op_eqD hu)
theorem op_neA (hu : X.A.units + 64 < cLine) : OpR X (compareOp .NotEq) (rNeA X.K) := OpR.or op_ne (op_neD hu)

/-! ### None, in -/
def gIsN : D → D → Option D
  | .non, .non => some (.bl true)
  | _, .non => some (.bl false)
  | _, _ => none
def gNotN : D → D → Option D
  | .non, .non => some (.bl false)
  | _, .non => some (.bl true)
  | _, _ => none
theorem rep_isN {K : PySem.W.Frag} {d : D} {v : V} (r : Rep K H d v) : (v = .non) ↔ d = .non := by
  cases d <;> rw [Rep] at r <;> first
    | (subst r; simp; done)
    | (obtain ⟨_, _, rfl, _⟩ := r; simp; done)
    | (obtain ⟨_, _, _, rfl, _⟩ := r; simp; done)
theorem ok_isN : OpOk X.K (fun x y H Q => y = .non ∧ Q (.bl (decide (x = .non))) H) gIsN := by
  intro H da db d x y Q ra rb e k
  have h := rep_isN ra
  cases db
  case non =>
    rw [Rep] at rb
    refine ⟨rb, ?_⟩
    by_cases hd : da = .non
    · subst hd
      cases e
      rw [decide_eq_true (h.mpr rfl)]; exact k _ fun _ => rep_bl
    · have e' : d = .bl false := by cases da <;> first | exact absurd rfl hd | exact (Option.some.inj e).symm
      subst e'
      rw [decide_eq_false fun z => hd (h.mp z)]
      exact k _ fun _ => rep_bl
  all_goals (cases da <;> cases e)
theorem ok_notN : OpOk X.K (fun x y H Q => y = .non ∧ Q (.bl (!decide (x = .non))) H) gNotN := by
  intro H da db d x y Q ra rb e k
  have h := rep_isN ra
  cases db
  case non =>
    rw [Rep] at rb
    refine ⟨rb, ?_⟩
    by_cases hd : da = .non
    · subst hd
      cases e
      rw [decide_eq_true (h.mpr rfl)]; exact k _ fun _ => rep_bl
    · have e' : d = .bl true := by cases da <;> first | exact absurd rfl hd | exact (Option.some.inj e).symm
      subst e'
      rw [decide_eq_false fun z => hd (h.mp z)]
      exact k _ fun _ => rep_bl
  all_goals (cases da <;> cases e)
/-- x in a list or tuple of ints -/
def intsOf : List D → Option (List Int)
  | [] => some []
  | .int i :: r => (intsOf r).map fun l => i :: l
  | _ :: _ => none
theorem intsOf_eq : ∀ {ds : List D} {ns : List Int}, intsOf ds = some ns → ds = ns.map D.int
  | [], ns, h => by cases h; rfl
  | .int i :: r, ns, h => by
    unfold intsOf at h
    cases hr : intsOf r with
    | none => rw [hr] at h; cases h
    | some l => rw [hr] at h; cases h; rw [intsOf_eq hr]; rfl
  | .non :: _, ns, h => by cases h
  | .bl _ :: _, ns, h => by cases h
  | .str _ :: _, ns, h => by cases h
  | .lst _ :: _, ns, h => by cases h
  | .tup _ :: _, ns, h => by cases h
  | .rdl _ :: _, ns, h => by cases h
  | .ins _ _ :: _, ns, h => by cases h
  | .exo _ :: _, ns, h => by cases h
theorem intsOf_ints : ∀ ns : List Int, intsOf (ns.map D.int) = some ns
  | [] => rfl
  | n :: ns => by show (intsOf (ns.map D.int)).map _ = _; rw [intsOf_ints ns]; rfl
def gIn (neg : Bool) : D → D → Option D
  | .int i, .lst ds => (intsOf ds).map fun ns => .bl (if neg then !decide (i ∈ ns) else decide (i ∈ ns))
  | .int i, .tup ds => (intsOf ds).map fun ns => .bl (if neg then !decide (i ∈ ns) else decide (i ∈ ns))
  | _, _ => none
theorem inV_ints (i : Int) : ∀ ns : List Int, inV (.int i) (ns.map V.int) = decide (i ∈ ns)
  | [] => rfl
  | n :: ns => by
    have ih := inV_ints i ns
    unfold inV at *
    rw [List.map_cons, List.any_cons, ih]
    have e : eqV (.int n) (.int i) = decide (n = i) := by
      simp only [eqV]; exact Bool.beq_eq_decide_eq _ _
    rw [e]
    by_cases h : n = i
    · subst h; simp
    · have h2 : ¬ i = n := fun z => h z.symm
      simp [h, h2]
theorem flat_ints : ∀ ns : List Int, (ns.map V.int).all flatV = true
  | [] => rfl
  | n :: ns => by rw [List.map_cons, List.all_cons, flat_ints ns]; rfl
theorem ok_in {neg : Bool} : OpOk X.K (rIn X.K neg) (gIn neg) := by
  intro H da db d x y Q ra rb e k
  cases da <;> first | cases e | skip
  rename_i i
  rw [Rep] at ra
  subst ra
  cases db <;> first | cases e | skip
  all_goals
    rename_i ds
    rw [Rep] at rb
    obtain ⟨p, xs, rfl, hp, rs⟩ := rb
    replace e : (intsOf ds).map (fun ns => D.bl (if neg then !decide (i ∈ ns) else decide (i ∈ ns))) = some d := e
    cases hi : intsOf ds with
    | none => rw [hi] at e; cases e
    | some ns =>
      rw [hi] at e
      have ed := (Option.some.inj e).symm
      have e1 := intsOf_eq hi
      subst e1
      have e2 := reps_ints rs
      subst e2
      refine ⟨p, _, rfl, by first | exact .inl (SqL.of hp) | exact .inr (SqT.of hp), rfl, flat_ints ns, ?_⟩
      rw [inV_ints]
      subst ed
      exact k _ fun _ => rep_bl

/-! ### subscripts -/
def ixD (n : Nat) : D → D → Option (Nat × D)
  | .lst ds, .int i => (atI ds i).map fun d => (n - 1, d)
  | .tup ds, .int i => (atI ds i).map fun d => (0, d)
  | .rdl ds, .int i => (atI ds i).map fun d => (0, d)
  | .str x, .int i => if x.length ≤ sizeLine then (atI x.cps.toList i).map fun c => (0, .str ⟨#[c]⟩) else none
  | _, _ => none
def eIx (f1 f2 : EB) : EB := fun ss => match f1 ss with
  | .ok (n, a) => (match f2 ss with
    | .ok (_, b) => (match ixD n a b with
      | some r => .ok r
      | none => .no)
    | .exc e => .exc e
    | .no => .no)
  | .exc e => .exc e
  | .no => .no
theorem atI_map {α β : Type} {xs : List α} {ys : List β} {i : Int} {x : α} (hl : xs.length = ys.length) (h : atI xs i = some x) : ∃ j : Nat, xs[j]? = some x ∧ ∀ y, ys[j]? = some y → atI ys i = some y := by
  unfold atI at h
  cases hi : ixN xs.length i with
  | none => rw [hi] at h; cases h
  | some j =>
    rw [hi] at h
    refine ⟨j, h, fun y hy => ?_⟩
    unfold atI
    rw [← hl, hi]
    exact hy
theorem ixD_ok {K : PySem.W.Frag} {B H : Hp} {n m : Nat} {da db d : D} {x y : V} {Q : VK} (bh : Le B H) (ba : Bw K B H n da x) (rb : Rep K H db y) (e : ixD n da db = some (m, d)) (k : ∀ v, Bw K B H m d v → Q v H) : rIx K x y H Q := by
  cases db <;> first | (cases da <;> cases e) | skip
  rename_i i
  rw [Rep] at rb
  subst rb
  cases da <;> first | cases e | skip
  case lst ds =>
    replace e : (atI ds i).map (fun d => ((n - 1 : Nat), d)) = some (m, d) := e
    obtain ⟨p, xs, rfl, hp, hl, hx⟩ := ba.list bh
    cases hi : atI ds i with
    | none => rw [hi] at e; cases e
    | some d0 =>
      rw [hi] at e
      cases e
      obtain ⟨j, h1, h2⟩ := atI_map hl hi
      obtain ⟨v, h3, h4⟩ := hx j _ h1
      exact .inl ⟨p, xs, i, v, rfl, rfl, SqL.of hp, h2 v h3, k v h4⟩
  case tup ds =>
    replace e : (atI ds i).map (fun d => ((0 : Nat), d)) = some (m, d) := e
    cases hi : atI ds i with
    | none => rw [hi] at e; cases e
    | some d0 =>
      rw [hi] at e
      cases e
      obtain ⟨fp, ow⟩ := ba
      cases n with
      | succ n => obtain ⟨_, _, _, _, z, _⟩ := ow; cases z
      | zero =>
        obtain ⟨_, r⟩ := ow
        rw [Rep] at r
        obtain ⟨p, xs, rfl, hp, rs⟩ := r
        obtain ⟨j, h1, h2⟩ := atI_map rs.length hi
        obtain ⟨v, h3, h4⟩ := rs.get h1
        exact .inr (.inl ⟨p, xs, i, v, rfl, rfl, SqT.of (bh _ _ hp), h2 v h3, k v (bw0 h4)⟩)
  case rdl ds =>
    replace e : (atI ds i).map (fun d => ((0 : Nat), d)) = some (m, d) := e
    cases hi : atI ds i with
    | none => rw [hi] at e; cases e
    | some d0 =>
      rw [hi] at e
      cases e
      obtain ⟨fp, ow⟩ := ba
      cases n with
      | succ n => obtain ⟨_, _, _, _, z, _⟩ := ow; cases z
      | zero =>
        obtain ⟨_, r⟩ := ow
        rw [Rep] at r
        obtain ⟨p, xs, rfl, hp, rs⟩ := r
        obtain ⟨j, h1, h2⟩ := atI_map rs.length hi
        obtain ⟨v, h3, h4⟩ := rs.get h1
        exact .inl ⟨p, xs, i, v, rfl, rfl, bh.sqL hp, h2 v h3, k v (bw0 h4)⟩
  case str x =>
    replace e : (if x.length ≤ sizeLine then (atI x.cps.toList i).map fun c => ((0 : Nat), D.str ⟨#[c]⟩) else none) = some (m, d) := e
    have hz := ba.flat (B' := H) rfl
    rw [Rep] at hz
    subst hz
    by_cases hs : x.length ≤ sizeLine
    · rw [if_pos hs] at e
      cases hi : atI x.cps.toList i with
      | none => rw [hi] at e; cases e
      | some c =>
        rw [hi] at e
        cases e
        exact .inr (.inr ⟨x, i, c, rfl, rfl, hs, hi, k _ (bw0 rep_str)⟩)
    · rw [if_neg hs] at e; cases e
theorem b_ix (ha : PE X a (tB X.K W f1)) (hb : PE X b (tB X.K W f2)) (hs : PlainIx b := by exact fun _ _ => rfl) : PE X (.Subscript a b pos) (tB X.K W (eIx f1 f2)) := by
  refine pe_w (pe_ix ix_seq ha hb hs) fun σ H Q hq => tB_cut hq fun B ss fps pi k => ?_
  unfold eIx at k
  cases h1 : f1 ss with
  | ok r1 =>
    obtain ⟨n1, d1⟩ := r1
    rw [h1] at k
    intro B1 x H1 s1 bx
    cases h2 : f2 ss with
    | ok r2 =>
      obtain ⟨n2, d2⟩ := r2
      rw [h2] at k
      refine tB_ok (pi.step s1) h2 fun B2 y H2 s2 bY => ?_
      cases hh : ixD n1 d1 d2 with
      | some r =>
        obtain ⟨m, d⟩ := r
        simp only [hh] at k
        exact ixD_ok s2.bh (bx.le s2.bb s2.hh) (bY.here s2.bh) hh fun v bv => k B2 v H2 (s1.trans s2) bv
      | none => simp only [hh] at k
    | exc e => rw [h2] at k; exact tB_exc (pi.step s1) h2 fun B2 cls dd H2 s2 ex => k B2 cls dd H2 (s1.trans s2) ex
    | no => rw [h2] at k; exact k.elim
  | exc e => rw [h1] at k; exact k
  | no => rw [h1] at k; exact k
end
end Mv

namespace Mv
open PySem L2

/-! ### new lists, new tuples -/
section
variable {K : PySem.W.Frag} {B H B1 H1 : Hp}
theorem all_of_reps : ∀ {ds : List D} {xs : List V}, Reps K B ds xs → All3 (Ow K B H 0) ds xs (ds.map fun _ => [])
  | [], xs, h => by rw [Reps] at h; subst h; exact .nil
  | d :: ds, xs, h => by
    rw [Reps] at h; obtain ⟨v, vs, rfl, h1, h2⟩ := h
    exact .cons ⟨rfl, h1⟩ (all_of_reps h2)
theorem reps_of_all : ∀ {ds : List D} {xs : List V} {fps : List (List Addr)}, All3 (Ow K B H 0) ds xs fps → Reps K B ds xs
  | _, _, _, .nil => reps_nil
  | _, _, _, .cons r t => reps_cons r.2 (reps_of_all t)
theorem flat_nils {α β : Type} : ∀ ds : List α, (ds.map fun _ => ([] : List β)).flatten = []
  | [] => rfl
  | _ :: ds => by rw [List.map_cons, List.flatten_cons, flat_nils ds]; rfl
theorem new_list {ds : List D} {xs : List V} {p : Addr} (st : Stp B H B1 H1) (rs : Reps K B1 ds xs) (hp : H1 p = none) :
    Stp B H B1 (upd H1 p (.lst xs)) ∧ New K H B1 (upd H1 p (.lst xs)) 1 (.lst ds) (.ref p) [p] := by
  refine ⟨⟨st.bb, st.hh.trans (Le.new hp), st.bh.trans (Le.new hp), st.dj⟩, ⟨⟨ds, p, xs, ds.map fun _ => [], rfl, rfl, upd_same, by rw [flat_nils], all_of_reps rs⟩, List.nodup_cons.mpr ⟨(fun z => nomatch z), List.nodup_nil⟩, fun a ha => ?_⟩⟩
  rw [List.mem_singleton] at ha
  subst ha
  exact ⟨st.bh.back hp, st.hh.back hp⟩
theorem new_tup {ds : List D} {xs : List V} {p : Addr} (st : Stp B H B1 H1) (rs : Reps K B1 ds xs) (hp : H1 p = none) :
    Stp B H (upd B1 p (.tup xs)) (upd H1 p (.tup xs)) ∧ Rep K (upd B1 p (.tup xs)) (.tup ds) (.ref p) := by
  have e : Le B1 (upd B1 p (.tup xs)) := Le.new (st.bh.back hp)
  refine ⟨⟨st.bb.trans e, st.hh.trans (Le.new hp), fun a o h => ?_, fun a h1 h2 => ?_⟩, ?_⟩
  · by_cases ha : a = p
    · subst ha; rw [upd_same] at *; exact h
    · rw [upd_ne ha] at *; exact st.bh a o h
  · have ha : a ≠ p := fun z => h2 (by rw [z]; exact st.hh.back hp)
    rw [upd_ne ha]; exact st.dj a h1 h2
  · rw [Rep]; exact ⟨p, xs, rfl, upd_same, Reps.mono e _ _ rs⟩
/-- a list at most one level deep: its items stand in the base -/
theorem Bw.items (bh : Le B H) {n : Nat} {ds : List D} {v : V} (hn : n ≤ 1) (h : Bw K B H n (.lst ds) v) : ∃ p xs, v = .ref p ∧ H p = some (.lst xs) ∧ Reps K B ds xs := by
  obtain ⟨fp, h⟩ := h
  match n, hn, h with
  | 0, _, h =>
    obtain ⟨_, h⟩ := h
    rw [Rep] at h
    obtain ⟨a, xs, h1, h2, h3⟩ := h
    exact ⟨a, xs, h1, bh _ _ h2, h3⟩
  | 1, _, h =>
    obtain ⟨ds', p, xs, fps, e, h1, hp, _, al⟩ := h
    cases e
    exact ⟨p, xs, h1, hp, reps_of_all al⟩
end
def eLst (ga : EA) : EB := fun ss => match ga ss with
  | .ok ds => if ds.length ≤ 10000000 then .ok (1, .lst ds) else .no
  | .exc e => .exc e
  | .no => .no
def eTup (ga : EA) : EB := fun ss => match ga ss with
  | .ok ds => if ds.length ≤ 10000000 then .ok (0, .tup ds) else .no
  | .exc e => .exc e
  | .no => .no
theorem size_ok {n : Nat} (h : n ≤ 10000000) : n ≤ sizeLine := by rw [sizeLine_eq]; omega
section
variable {X : Cx} {W : WX} {a b c e : Expr} {es : List Expr} {pos : Pos} {f f1 f2 f3 : EB} {g1 : EA}
theorem m_lst (h : PA X es (tA X.K W g1)) : PE X (.List es pos) (tM X.K W (eLst g1)) := by
  refine pe_w (pe_lst h) fun σ H Q hq => ?_
  obtain ⟨B, ss, fps, pi, k⟩ := hq
  refine ⟨B, ss, fps, pi, ?_⟩
  unfold eLst at k
  cases h : g1 ss with
  | ok ds =>
    rw [h] at k
    intro B1 vs H1 s1 rs
    by_cases hz : ds.length ≤ 10000000
    · simp only [hz, if_true] at k
      refine ⟨by rw [← rs.length]; exact size_ok hz, fun p hp => ?_⟩
      obtain ⟨q1, q2⟩ := new_list s1 rs hp
      exact k _ _ _ _ q1 q2
    · simp only [hz, if_false] at k
  | exc e => rw [h] at k; exact k
  | no => rw [h] at k; exact k
theorem b_tup {x1 : Nat} (h : PA X es (tA X.K W g1)) : PE X (.Tuple es x1 pos) (tB X.K W (eTup g1)) := by
  refine pe_w (pe_tup h) fun σ H Q hq => ?_
  obtain ⟨B, ss, fps, pi, k⟩ := hq
  refine ⟨B, ss, fps, pi, ?_⟩
  unfold eTup at k
  cases h : g1 ss with
  | ok ds =>
    rw [h] at k
    intro B1 vs H1 s1 rs
    by_cases hz : ds.length ≤ 10000000
    · simp only [hz, if_true] at k
      refine ⟨by rw [← rs.length]; exact size_ok hz, fun p hp => ?_⟩
      obtain ⟨q1, q2⟩ := new_tup s1 rs hp
      exact k _ _ _ q1 (bw0 q2)
    · simp only [hz, if_false] at k
  | exc e => rw [h] at k; exact k
  | no => rw [h] at k; exact k

/-! ### slices of lists -/
end
abbrev EP := En → Res (Option Int)
def tP (K : PySem.W.Frag) (W : WX) (f : EP) : TO := fun σ H Q => ∃ B ss fps, Pi K B σ H ss fps ∧ match f ss with
  | .ok o => ∀ B' H', Stp B H B' H' → Q o H'
  | .exc e => ∀ B' cls dd H', Stp B H B' H' → ExR K B' H' e cls dd → W cls dd σ H'
  | .no => False
def pNone : EP := fun _ => .ok none
def pSome (f : EB) : EP := fun ss => match f ss with
  | .ok (_, .int i) => .ok (some i)
  | .ok (_, _) => .no
  | .exc e => .exc e
  | .no => .no
def cutD (ds : List D) (lo hi : Option Int) : List D := (ds.drop (HT.sIx ds.length 0 lo)).take (HT.sIx ds.length ds.length hi - HT.sIx ds.length 0 lo)
def eSl (f : EB) (l h : EP) : EB := fun ss => match f ss with
  | .ok (n, .lst ds) => if n ≤ 1 then (match l ss with
    | .ok lo => (match h ss with
      | .ok hi => .ok (1, .lst (cutD ds lo hi))
      | .exc e => .exc e
      | .no => .no)
    | .exc e => .exc e
    | .no => .no) else .no
  | .ok (_, _) => .no
  | .exc e => .exc e
  | .no => .no
section
variable {X : Cx} {W : WX} {a b c e : Expr} {es : List Expr} {pos p2 : Pos} {f f1 f2 f3 : EB} {g1 : EA} {lo hi : Option Expr} {l h : EP}
theorem po_w {o : Option Expr} {t u : TO} (h : PO X o t) (k : ∀ σ H Q, u σ H Q → t σ H Q) : PO X o u := ⟨fun pins s σ H Q I q => h.run pins s σ H Q I (k σ H Q q)⟩
theorem o_none : PO X none (tP X.K W pNone) := by
  refine po_w po_none fun σ H Q hq => ?_
  obtain ⟨B, ss, fps, pi, k⟩ := hq
  exact k B H (.refl pi.bh)
theorem o_some (h : PE X e (tB X.K W f)) : PO X (some e) (tP X.K W (pSome f)) := by
  refine po_w (po_some h) fun σ H Q hq => ?_
  obtain ⟨B, ss, fps, pi, k⟩ := hq
  refine ⟨B, ss, fps, pi, ?_⟩
  unfold pSome at k
  cases h : f ss with
  | ok r =>
    obtain ⟨n, d⟩ := r
    rw [h] at k
    cases d <;> first | exact k.elim | skip
    rename_i i
    intro B1 v H1 s1 bw
    have e := bw.flat (B' := B1) rfl
    rw [Rep] at e
    exact ⟨i, e, k B1 H1 s1⟩
  | exc e => rw [h] at k; exact k
  | no => rw [h] at k; exact k
theorem tP_step {K : PySem.W.Frag} {W : WX} {σ : L2.St} {H B B1 H1 : Hp} {ss : En} {fps : List (List Addr)} {f : EP} {Q : Option Int → Hp → Prop} (pi : Pi K B σ H ss fps) (s1 : Stp B H B1 H1)
    (k : match f ss with
      | .ok o => ∀ B' H', Stp B H B' H' → Q o H'
      | .exc e => ∀ B' cls dd H', Stp B H B' H' → ExR K B' H' e cls dd → W cls dd σ H'
      | .no => False) : tP K W f σ H1 Q := by
  refine ⟨B1, ss, fps, pi.step s1, ?_⟩
  cases h : f ss with
  | ok o => rw [h] at k; exact fun B' H' s => k B' H' (s1.trans s)
  | exc e => rw [h] at k; exact fun B' cls dd H' s ex => k B' cls dd H' (s1.trans s) ex
  | no => rw [h] at k; exact k.elim
theorem cut_reps {K : PySem.W.Frag} {B : Hp} {ds : List D} {xs : List V} (rs : Reps K B ds xs) (lo hi : Option Int) : Reps K B (cutD ds lo hi) (cutV xs lo hi) := by
  unfold cutD cutV
  rw [rs.length]
  exact (rs.drop _).take _
theorem m_sl (he : PE X e (tB X.K W f)) (hl : PO X lo (tP X.K W l)) (hh : PO X hi (tP X.K W h)) : PE X (.Subscript e (.Slice lo hi none p2) pos) (tM X.K W (eSl f l h)) := by
  refine pe_w (pe_slice sl_list he hl hh) fun σ H Q hq => ?_
  obtain ⟨B, ss, fps, pi, k⟩ := hq
  refine ⟨B, ss, fps, pi, ?_⟩
  unfold eSl at k
  cases h1 : f ss with
  | ok r =>
    obtain ⟨n, d⟩ := r
    rw [h1] at k
    cases d <;> first | exact k.elim | skip
    rename_i ds
    by_cases hn : n ≤ 1
    · simp only [hn, if_true] at k
      intro B1 v H1 s1 bw
      cases h2 : l ss with
      | ok lo =>
        rw [h2] at k
        refine ⟨B1, ss, fps, pi.step s1, ?_⟩
        rw [h2]
        intro B2 H2 s2
        cases h3 : h ss with
        | ok hi =>
          simp only [h3] at k
          refine ⟨B2, ss, fps, (pi.step s1).step s2, ?_⟩
          rw [h3]
          intro B3 H3 s3
          obtain ⟨p, xs, rfl, hp, rs⟩ := ((bw.le s2.bb s2.hh).le s3.bb s3.hh).items s3.bh hn
          refine ⟨p, xs, rfl, SqL.of hp, fun q hq => ?_⟩
          obtain ⟨q1, q2⟩ := new_list ((s1.trans s2).trans s3) (cut_reps rs lo hi) hq
          exact k _ _ _ _ q1 q2
        | exc e => simp only [h3] at k; exact ⟨B2, ss, fps, (pi.step s1).step s2, by rw [h3]; exact fun B' cls dd H' s ex => k B' cls dd H' ((s1.trans s2).trans s) ex⟩
        | no => simp only [h3] at k
      | exc e => rw [h2] at k; exact ⟨B1, ss, fps, pi.step s1, by rw [h2]; exact fun B' cls dd H' s ex => k B' cls dd H' (s1.trans s) ex⟩
      | no => rw [h2] at k; exact k.elim
    · simp only [hn, if_false] at k
  | exc e => rw [h1] at k; exact k
  | no => rw [h1] at k; exact k
end
end Mv

namespace Mv
open PySem L2

/-! ### slots change -/
section
variable {K : PySem.W.Frag} {B0 H0 B B' H H' : Hp} {σ : St} {ss : En} {fps : List (List Addr)}
theorem nodup_set {fps : List (List Addr)} {fp : List Addr} (h : fps.flatten.Nodup) (hf : fp.Nodup) : ∀ (i : Nat), (∀ c, fps[i]? ≠ some c → True) → (∀ a ∈ fp, ∀ c ∈ fps, a ∈ c → ∃ o, fps[i]? = some o ∧ a ∈ o) → (fps.set i fp).flatten.Nodup := by
  induction fps with
  | nil => intro i _ _; simp
  | cons c cs ih =>
    intro i _ hd
    rw [List.flatten_cons] at h
    obtain ⟨h1, h2, h3⟩ := List.nodup_append.mp h
    cases i with
    | zero =>
      rw [List.set_cons_zero, List.flatten_cons]
      refine List.nodup_append.mpr ⟨hf, h2, fun a ha b hb e => ?_⟩
      subst e
      obtain ⟨c', hc', hac'⟩ := List.mem_flatten.mp hb
      obtain ⟨o, ho, hao⟩ := hd a ha c' (List.mem_cons_of_mem _ hc') hac'
      simp at ho
      subst ho
      exact h3 a hao a hb rfl
    | succ i =>
      rw [List.set_cons_succ, List.flatten_cons]
      have hd' : ∀ a ∈ fp, ∀ c' ∈ cs, a ∈ c' → ∃ o, cs[i]? = some o ∧ a ∈ o := fun a ha c' hc' hac' => by
        obtain ⟨o, ho, hao⟩ := hd a ha c' (List.mem_cons_of_mem _ hc') hac'
        exact ⟨o, by simpa using ho, hao⟩
      refine List.nodup_append.mpr ⟨h1, ih h2 i (fun _ _ => True.intro) hd', fun a ha b hb e => ?_⟩
      subst e
      obtain ⟨c', hc', hac'⟩ := List.mem_flatten.mp hb
      have hm : c' ∈ cs ∨ c' = fp := by
        rcases List.mem_or_eq_of_mem_set hc' with z | z
        · exact .inl z
        · exact .inr z
      rcases hm with z | z
      · exact h3 a ha a (mem_fl z hac') rfl
      · subst z
        obtain ⟨o, ho, hao⟩ := hd a hac' c List.mem_cons_self ha
        have ho' : cs[i]? = some o := by simpa using ho
        exact h3 a ha a (mem_fl (List.mem_of_getElem? ho') hao) rfl
theorem nd_mem : ∀ {fps : List (List Addr)} {fp : List Addr}, fps.flatten.Nodup → fp ∈ fps → fp.Nodup
  | [], _, _, h => nomatch h
  | c :: cs, fp, nd, h => by
    rw [List.flatten_cons] at nd
    obtain ⟨n1, n2, _⟩ := List.nodup_append.mp nd
    obtain e | e := List.mem_cons.mp h
    · rw [e]; exact n1
    · exact nd_mem n2 e
theorem mem_set_fl {fps : List (List Addr)} {fp : List Addr} {i : Nat} {a : Addr} (h : a ∈ (fps.set i fp).flatten) : a ∈ fps.flatten ∨ a ∈ fp := by
  obtain ⟨c, hc, hac⟩ := List.mem_flatten.mp h
  rcases List.mem_or_eq_of_mem_set hc with z | z
  · exact .inl (mem_fl z hac)
  · subst z; exact .inr hac
/-- a fresh value goes into a slot -/
theorem SI.store (h : SI K B0 H0 B σ H ss fps) (st : Stp B H B' H') {n : Nat} {d : D} {v : V} {fp : List Addr} (nw : New K H B' H' n d v fp) (i : Nat) : SI K B0 H0 B' (σ.set i (some v)) H' (ss.set i (.v n d)) (fps.set i fp) := by
  have h' := h.step st
  have fresh : ∀ a ∈ fp, a ∉ fps.flatten := fun a ha hm => by
    obtain ⟨xs, e⟩ := h.pi.here a hm
    rw [(nw.fr a ha).2] at e; cases e
  refine ⟨⟨h'.pi.bh, h'.pi.al.set (a := Sl.v n d) (b := some v) ⟨v, rfl, nw.ow⟩ i, nodup_set h'.pi.nd nw.nd i (fun _ _ => True.intro) fun a ha c hc hac => absurd (mem_fl hc hac) (fresh a ha), fun a ha => ?_⟩, h'.st, fun a ha => ?_⟩
  · rcases mem_set_fl ha with z | z
    · exact h'.pi.fr a z
    · exact (nw.fr a z).1
  · rcases mem_set_fl ha with z | z
    · exact h'.fr a z
    · exact h.st.hh.back (nw.fr a z).2
/-- the slots of a def at its start -/
theorem all_start : ∀ {ds : List D} {vs : List V}, Reps K B ds vs → All3 (slotOk K B H) (ds.map (Sl.v 0)) (vs.map some) (ds.map fun _ => [])
  | [], vs, h => by rw [Reps] at h; subst h; exact .nil
  | d :: ds, vs, h => by
    rw [Reps] at h; obtain ⟨v, us, rfl, h1, h2⟩ := h
    exact .cons ⟨v, rfl, rfl, h1⟩ (all_start h2)
theorem all_un : ∀ n : Nat, All3 (slotOk K B H) (List.replicate n Sl.un) (List.replicate n none) (List.replicate n [])
  | 0 => .nil
  | n + 1 => .cons rfl (all_un n)
theorem flat_reps {α : Type} : ∀ n : Nat, (List.replicate n ([] : List α)).flatten = []
  | 0 => rfl
  | n + 1 => by rw [List.replicate_succ, List.flatten_cons, flat_reps n]; rfl
theorem SI.start {ds : List D} {vs : List V} (bh : Le B H) (rs : Reps K B ds vs) (n : Nat) : SI K B H B (vs.map some ++ List.replicate n none) H (ds.map (Sl.v 0) ++ List.replicate n .un) (ds.map (fun _ => []) ++ List.replicate n []) := by
  have e : (ds.map (fun _ => ([] : List Addr)) ++ List.replicate n []).flatten = [] := by rw [List.flatten_append, flat_nils, flat_reps]; rfl
  refine ⟨⟨bh, (all_start rs).append (all_un n), by rw [e]; exact List.nodup_nil, fun a ha => ?_⟩, .refl bh, fun a ha => ?_⟩
  · rw [e] at ha; cases ha
  · rw [e] at ha; cases ha
end

/-! ### statements -/
def sSeq (F G : SM) : SM := fun ss => match F ss with
  | .nx s' => G s'
  | o => o
def sNext : SM := .nx
def sAsg (i : Nat) (f : EB) : SM := fun ss => match f ss with
  | .ok (n, d) => .nx (ss.set i (.v n d))
  | .exc e => .exc e ss
  | .no => .no
def sRet (f : EB) : SM := fun ss => match f ss with
  | .ok (n, d) => .rt n d
  | .exc e => .exc e ss
  | .no => .no
def sRetN : SM := fun _ => .rt 0 .non
def sDrop (f : EB) : SM := fun ss => match f ss with
  | .ok _ => .nx ss
  | .exc e => .exc e ss
  | .no => .no
def sIf (t : ET) (F G : SM) : SM := fun ss => match t ss with
  | .ok true => F ss
  | .ok false => G ss
  | .exc e => .exc e ss
  | .no => .no
def sBrk : SM := .bk
def sCt : SM := .ct
/-- return x: what the slot owns goes out -/
def sRetV (i : Nat) : SM := fun ss => match ss[i]? with
  | some (.v n d) => .rt n d
  | _ => .no
def sNo : SM := fun _ => .no
section
variable {X : Cx} {W : WX} {a b c e : Expr} {st : Stmt} {rest : List Stmt} {pos : Pos} {f f1 f2 f3 : EB} {t1 : ET} {F G : SM}
theorem seq_of {D : Ends} {σ : L2.St} {H : Hp} (hq : tS X.K W (sSeq F G) D σ H) : tSeq (tS X.K W F) (tS X.K W G) D σ H := by
  obtain ⟨B0, H0, B, ss, fps, si, k⟩ := hq
  refine ⟨B0, H0, B, ss, fps, si, ?_⟩
  unfold sSeq at k
  cases h : F ss with
  | nx s' =>
    rw [h] at k
    intro B1 σ1 H1 fps1 si1
    exact ⟨B0, H0, B1, s', fps1, si1, k⟩
  | rt n d => rw [h] at k; exact k
  | bk s' => rw [h] at k; exact k
  | ct s' => rw [h] at k; exact k
  | exc e s' => rw [h] at k; exact k
  | no => rw [h] at k; exact k
theorem ss_nil : PSs X [] (tS X.K W sNext) := by
  refine pss_w pss_nil fun D σ H hq => ?_
  obtain ⟨B0, H0, B, ss, fps, si, k⟩ := hq
  exact k B σ H fps si
theorem ss_cons (h1 : PS X st (tS X.K W F)) (h2 : PSs X rest (tS X.K W G)) : PSs X (st :: rest) (tS X.K W (sSeq F G)) := pss_w (pss_cons h1 h2) fun D σ H hq => seq_of hq
theorem ss_one (h1 : PS X st (tS X.K W F)) : PSs X [st] (tS X.K W F) := pss_one h1
theorem s_pass : PS X (.Pass pos) (tS X.K W sNext) := by
  refine ps_w ps_pass fun D σ H hq => ?_
  obtain ⟨B0, H0, B, ss, fps, si, k⟩ := hq
  exact k B σ H fps si
theorem s_brk : PS X (.Break pos) (tS X.K W sBrk) := by
  refine ps_w ps_break fun D σ H hq => ?_
  obtain ⟨B0, H0, B, ss, fps, si, k⟩ := hq
  exact k B σ H fps si
theorem s_ct : PS X (.Continue pos) (tS X.K W sCt) := by
  refine ps_w ps_continue fun D σ H hq => ?_
  obtain ⟨B0, H0, B, ss, fps, si, k⟩ := hq
  exact k B σ H fps si
theorem s_no {st : Stmt} : PS X st (tS X.K W sNo) := ps_w ps_never fun D σ H hq => by
  obtain ⟨B0, H0, B, ss, fps, si, k⟩ := hq
  exact k
theorem asg_of {i : Nat} {D : Ends} {σ : L2.St} {H : Hp} (hq : tS X.K W (sAsg i f) D σ H) : tAsg (tM X.K W f) (gName i) D σ H := by
  obtain ⟨B0, H0, B, ss, fps, si, k⟩ := hq
  refine ⟨B, ss, fps, si.pi, ?_⟩
  unfold sAsg at k
  cases h : f ss with
  | ok r =>
    obtain ⟨n, d⟩ := r
    rw [h] at k
    exact fun B' v H' fp st nw => k B' _ H' _ (si.store st nw i)
  | exc e => rw [h] at k; exact fun B' cls dd H' st ex => k B' σ H' fps cls dd (si.step st) ex
  | no => rw [h] at k; exact k
theorem s_set {i : Nat} {x : Str} {pos' : Pos} (hN : X.N.Nodup) (hi : X.N[i]? = some x) (hx : Loc X.env.scope x) (he : PE X e (tM X.K W f)) (hs : swapsWith e (some (.Name x pos')) pos.line X.env = pure false := by rfl) (hf : X.fn x = true ∨ X.env.scope.names.lookup x = some .local := by first | exact .inl rfl | exact .inr rfl | assumption) :
    PS X (.Assign [.Name x pos'] e pos) (tS X.K W (sAsg i f)) := ps_w (ps_set hN hi hx he hs hf) fun D σ H hq => asg_of hq
theorem s_ret (he : PE X e (tM X.K W f)) : PS X (.Return (some e) pos) (tS X.K W (sRet f)) := by
  refine ps_w (ps_ret he) fun D σ H hq => ?_
  obtain ⟨B0, H0, B, ss, fps, si, k⟩ := hq
  refine ⟨B, ss, fps, si.pi, ?_⟩
  unfold sRet at k
  cases h : f ss with
  | ok r =>
    obtain ⟨n, d⟩ := r
    rw [h] at k
    exact fun B' v H' fp st nw => k B' v H' fp (si.st.trans st) ⟨nw.ow, nw.nd, fun a ha => ⟨(nw.fr a ha).1, si.st.hh.back (nw.fr a ha).2⟩⟩
  | exc e => rw [h] at k; exact fun B' cls dd H' st ex => k B' σ H' fps cls dd (si.step st) ex
  | no => rw [h] at k; exact k
theorem s_retN : PS X (.Return none pos) (tS X.K W sRetN) := by
  refine ps_w ps_retN fun D σ H hq => ?_
  obtain ⟨B0, H0, B, ss, fps, si, k⟩ := hq
  exact k B .non H [] si.st ⟨⟨rfl, rep_non⟩, List.nodup_nil, fun a z => nomatch z⟩
theorem s_retV (i : Nat) {x : Str} {p : Pos} (hN : X.N[i]? = some x := by rfl) (hv : Vis X.env.scope x := by first | exact Or.inl rfl | exact Or.inr (Or.inl rfl) | exact Or.inr (Or.inr rfl)) (hd : (x == ("__debug__" : Str)) = false := by decide)
    (hcd : (x == ("__classdict__" : Str)) = false := by decide) : PS X (.Return (some (.Name x p)) pos) (tS X.K W (sRetV i)) := by
  refine ps_w (ps_ret (pe_var hN hv hd hcd)) fun D σ H hq => ?_
  obtain ⟨B0, H0, B, ss, fps, si, k⟩ := hq
  unfold sRetV at k
  cases hs : ss[i]? with
  | none => rw [hs] at k; exact k.elim
  | some s =>
    rw [hs] at k
    cases s with
    | un => exact k.elim
    | v n d =>
      obtain ⟨o, fp, h1, h2, v, h3, h4⟩ := si.pi.al.get hs
      subst h3
      have hm : fp ∈ fps := List.mem_of_getElem? h2
      exact ⟨v, h1, k B v H fp si.st ⟨h4, nd_mem si.pi.nd hm, fun a ha => ⟨si.pi.fr a (mem_fl hm ha), si.fr a (mem_fl hm ha)⟩⟩⟩
theorem s_drop (he : PE X e (tB X.K W f)) (hs : swapsWith e none pos.line X.env = pure false := by rfl) : PS X (.Expr e pos) (tS X.K W (sDrop f)) := by
  refine ps_w (ps_expr he hs) fun D σ H hq => ?_
  obtain ⟨B0, H0, B, ss, fps, si, k⟩ := hq
  refine ⟨B, ss, fps, si.pi, ?_⟩
  unfold sDrop at k
  cases h : f ss with
  | ok r => rw [h] at k; exact fun B' v H' st _ => k B' σ H' fps (si.step st)
  | exc e => rw [h] at k; exact fun B' cls dd H' st ex => k B' σ H' fps cls dd (si.step st) ex
  | no => rw [h] at k; exact k
theorem tS_step {K : PySem.W.Frag} {B0 H0 B B1 H H1 : Hp} {ss : En} {fps : List (List Addr)} {D : Ends} {σ : L2.St} (si : SI K B0 H0 B σ H ss fps) (s1 : Stp B H B1 H1)
    (k : match F ss with
      | .nx ss' => ∀ B' σ' H' fps', SI K B0 H0 B' σ' H' ss' fps' → D.nx σ' H'
      | .bk ss' => ∀ B' σ' H' fps', SI K B0 H0 B' σ' H' ss' fps' → D.bk σ' H'
      | .ct ss' => ∀ B' σ' H' fps', SI K B0 H0 B' σ' H' ss' fps' → D.ct σ' H'
      | .rt n d => ∀ B' v H' fp, Stp B0 H0 B' H' → New K H0 B' H' n d v fp → D.rt v H'
      | .exc e ss' => ∀ B' σ' H' fps' cls dd, SI K B0 H0 B' σ' H' ss' fps' → ExR K B' H' e cls dd → W cls dd σ' H'
      | .no => False) : tS K W F D σ H1 := ⟨B0, H0, B1, ss, fps, si.step s1, k⟩
theorem s_if {xs ys : List Stmt} (hc : PT X c (tT X.K W t1)) (ha : PSs X xs (tS X.K W F)) (hb : PSs X ys (tS X.K W G)) : PS X (.If c xs ys pos) (tS X.K W (sIf t1 F G)) := by
  refine ps_w (ps_if hc ha hb) fun D σ H hq => ?_
  obtain ⟨B0, H0, B, ss, fps, si, k⟩ := hq
  refine ⟨B, ss, fps, si.pi, ?_⟩
  unfold sIf at k
  cases h : t1 ss with
  | ok b =>
    rw [h] at k
    cases b with
    | true => exact fun B1 H1 s1 => tS_step si s1 k
    | false => exact fun B1 H1 s1 => tS_step si s1 k
  | exc e => rw [h] at k; exact fun B' cls dd H' st ex => k B' σ H' fps cls dd (si.step st) ex
  | no => rw [h] at k; exact k
end

/-! ### freezing a slot -/
def frzSl (i : Nat) (ss : En) : En := match ss[i]? with
  | some (.v _ d) => ss.set i (.v 0 d)
  | _ => ss
def sFrz (i : Nat) (F : SM) : SM := fun ss => F (frzSl i ss)
section
variable {K : PySem.W.Frag} {B0 H0 B B' H H' : Hp} {σ : St} {ss : En} {fps : List (List Addr)}
theorem set_same {α : Type} : ∀ {xs : List α} {k : Nat} {x : α}, xs[k]? = some x → xs.set k x = xs
  | [], _, _, h => by simp at h
  | y :: ys, 0, _, h => by simp at h; subst h; rfl
  | y :: ys, k + 1, x, h => congrArg (y :: ·) (set_same (xs := ys) (k := k) (x := x) (by simpa using h))
theorem SI.freeze (h : SI K B0 H0 B σ H ss fps) (i : Nat) : ∃ B' fps', SI K B0 H0 B' σ H (frzSl i ss) fps' := by
  unfold frzSl
  cases hs : ss[i]? with
  | none => exact ⟨B, fps, h⟩
  | some s =>
    cases s with
    | un => exact ⟨B, fps, h⟩
    | v n d =>
      obtain ⟨o, fp, h1, h2, v, h3, h4⟩ := h.pi.al.get hs
      subst h3
      have hm : fp ∈ fps := List.mem_of_getElem? h2
      have fN : ∀ a ∈ fp, B a = none := fun a ha => h.pi.fr a (mem_fl hm ha)
      have eB : Le B (frzH B H fp) := frz_le fN
      have eH : Le (frzH B H fp) H := frz_in h.pi.bh
      have apart : ∀ (j : Nat) c, fps[j]? = some c → j ≠ i → ∀ a ∈ c, a ∉ fp := by
        have gen : ∀ {l : List (List Addr)} {i j : Nat} {c d : List Addr}, l.flatten.Nodup → l[i]? = some c → l[j]? = some d → j ≠ i → ∀ a ∈ d, a ∉ c := by
          intro l
          induction l with
          | nil => intro i j c d _ q; simp at q
          | cons x xs ih =>
            intro i j c d nd q1 q2 ne a ha hc
            rw [List.flatten_cons] at nd
            obtain ⟨n1, n2, n3⟩ := List.nodup_append.mp nd
            cases i with
            | zero =>
              cases j with
              | zero => exact ne rfl
              | succ j =>
                simp at q1 q2
                subst q1
                exact n3 a hc a (mem_fl (List.mem_of_getElem? q2) ha) rfl
            | succ i =>
              cases j with
              | zero =>
                simp at q1 q2
                subst q2
                exact n3 a ha a (mem_fl (List.mem_of_getElem? q1) hc) rfl
              | succ j =>
                exact ih n2 (by simpa using q1) (by simpa using q2) (fun z => ne (by rw [z])) a ha hc
        intro j c hj hne
        exact gen h.pi.nd h2 hj hne
      refine ⟨frzH B H fp, fps.set i [], ⟨⟨eH, ?_, ?_, fun a ha => ?_⟩, ⟨h.st.bb.trans eB, h.st.hh, eH, fun a z1 z2 => ?_⟩, fun a ha => ?_⟩⟩
      · have base : All3 (slotOk K (frzH B H fp) H) ss σ fps := h.pi.al.imp fun s o c hc r => r.mono eB fun a ha => rfl
        have q := base.set (a := Sl.v 0 d) (b := some v) (c := []) ⟨v, rfl, rfl, frz_rep _ eB (fun a ha => frz_at ha) h4⟩ i
        rw [set_same h1] at q
        exact q
      · exact nodup_set h.pi.nd List.nodup_nil i (fun _ _ => True.intro) fun a ha => nomatch ha
      · obtain ⟨c, hc, hac⟩ := List.mem_flatten.mp ha
        obtain ⟨j, hj, ej⟩ := List.mem_iff_getElem.mp hc
        have hne : j ≠ i := fun z => by
          subst z
          rw [List.getElem_set_self] at ej
          subst ej
          cases hac
        rw [List.getElem_set_ne (Ne.symm hne)] at ej
        have hj' : j < fps.length := by rw [List.length_set] at hj; exact hj
        have e2 : fps[j]? = some c := by rw [List.getElem?_eq_getElem hj', ej]
        rw [frz_out (apart j c e2 hne a hac)]
        exact h.pi.fr a (mem_fl (List.mem_of_getElem? e2) hac)
      · by_cases ha : a ∈ fp
        · exact absurd (h.fr a (mem_fl hm ha)) z2
        · rw [frz_out ha]; exact h.st.dj a z1 z2
      · rcases mem_set_fl ha with z | z
        · exact h.fr a z
        · cases z
end
section
variable {X : Cx} {W : WX} {st : Stmt} {sts : List Stmt} {F : SM}
theorem frz_of {i : Nat} {D : Ends} {σ : L2.St} {H : Hp} (hq : tS X.K W (sFrz i F) D σ H) : tS X.K W F D σ H := by
  obtain ⟨B0, H0, B, ss, fps, si, k⟩ := hq
  obtain ⟨B', fps', si'⟩ := si.freeze i
  exact ⟨B0, H0, B', _, fps', si', k⟩
theorem s_frz (i : Nat) (h : PS X st (tS X.K W F)) : PS X st (tS X.K W (sFrz i F)) := ps_w h fun D σ H hq => frz_of hq
end
end Mv

namespace Mv
open PySem L2

def Post (K : PySem.W.Frag) (W : WX) (B0 H0 : Hp) (E : Ends) : SO → Prop
  | .nx ss' => ∀ B' σ' H' fps', SI K B0 H0 B' σ' H' ss' fps' → E.nx σ' H'
  | .bk ss' => ∀ B' σ' H' fps', SI K B0 H0 B' σ' H' ss' fps' → E.bk σ' H'
  | .ct ss' => ∀ B' σ' H' fps', SI K B0 H0 B' σ' H' ss' fps' → E.ct σ' H'
  | .rt n d => ∀ B' v H' fp, Stp B0 H0 B' H' → New K H0 B' H' n d v fp → E.rt v H'
  | .exc e ss' => ∀ B' σ' H' fps' cls dd, SI K B0 H0 B' σ' H' ss' fps' → ExR K B' H' e cls dd → W cls dd σ' H'
  | .no => False
theorem tS_get {K : PySem.W.Frag} {W : WX} {F : SM} {E : Ends} {σ : L2.St} {H : Hp} (h : tS K W F E σ H) : ∃ B0 H0 B ss fps, SI K B0 H0 B σ H ss fps ∧ Post K W B0 H0 E (F ss) := by
  obtain ⟨B0, H0, B, ss, fps, si, k⟩ := h
  refine ⟨B0, H0, B, ss, fps, si, ?_⟩
  cases h : F ss <;> (rw [h] at k; exact k)
theorem tS_mk {K : PySem.W.Frag} {W : WX} {F : SM} {E : Ends} {σ : L2.St} {B0 H0 B H : Hp} {ss : En} {fps : List (List Addr)} (si : SI K B0 H0 B σ H ss fps) (k : Post K W B0 H0 E (F ss)) : tS K W F E σ H := by
  refine ⟨B0, H0, B, ss, fps, si, ?_⟩
  cases h : F ss <;> (rw [h] at k; exact k)

/-! ### what is walked -/
def Walk (K : PySem.W.Frag) (J : It) (B1 : Hp) (ds : List D) : Prop := ∀ (i : Nat) (B H : Hp), Le B1 B → Le B H → (i < ds.length → J.go i H) ∧ (ds.length ≤ i → J.stop i H) ∧ ∀ x H' d, ds[i]? = some d → J.yld i H x H' → ∃ B', Stp B H B' H' ∧ Rep K B' d x
abbrev EI := En → Res (List D)
def tI (K : PySem.W.Frag) (W : WX) (f : EI) : TI := fun σ H R => ∃ B ss fps, Pi K B σ H ss fps ∧ match f ss with
  | .ok ds => ∀ B' H' J, Stp B H B' H' → Walk K J B' ds → R J H'
  | .exc e => ∀ B' cls dd H', Stp B H B' H' → ExR K B' H' e cls dd → W cls dd σ H'
  | .no => False
theorem pi_w {X : Cx} {tg it : Expr} {t u : TI} (h : PI X tg it t) (k : ∀ σ H R, u σ H R → t σ H R) : PI X tg it u := ⟨fun pins s σ H R I q => h.run pins s σ H R I (k σ H R q)⟩
theorem walk_list {K : PySem.W.Frag} {B : Hp} {a : Addr} {xs : List V} {ds : List D} (h : SqL K B a xs) (rs : Reps K B ds xs) : Walk K (Itl K a) B ds := fun i B' H e1 e2 => by
  have hs : SqL K H a xs := e2.sqL (e1.sqL h)
  refine ⟨fun hi => ?_, fun hi => ⟨xs, hs, by rw [← rs.length]; exact hi⟩, fun x H' d hd hy => ?_⟩
  · obtain ⟨v, h1, _⟩ := rs.get (List.getElem?_eq_getElem hi)
    exact ⟨xs, v, hs, h1⟩
  · obtain ⟨rfl, hv⟩ := hy
    obtain ⟨v, h1, h2⟩ := rs.get hd
    have e := hv xs hs
    rw [h1] at e; cases e
    exact ⟨B', .refl e2, Rep.mono e1 _ _ h2⟩
theorem walk_tup {K : PySem.W.Frag} {B : Hp} {a : Addr} {xs : List V} {ds : List D} (h : SqT K B a xs) (rs : Reps K B ds xs) : Walk K (Itt K a) B ds := fun i B' H e1 e2 => by
  have up : ∀ {H H' : Hp}, Le H H' → SqT K H a xs → SqT K H' a xs := fun e h => by
    obtain (h | ⟨o, h⟩) | h := h
    · exact .inl (.inl (e _ _ h))
    · exact (.inl (.inr ⟨o, e _ _ h⟩))
    · exact .inr h
  have hs : SqT K H a xs := up e2 (up e1 h)
  refine ⟨fun hi => ?_, fun hi => ⟨xs, hs, by rw [← rs.length]; exact hi⟩, fun x H' d hd hy => ?_⟩
  · obtain ⟨v, h1, _⟩ := rs.get (List.getElem?_eq_getElem hi)
    exact ⟨xs, v, hs, h1⟩
  · obtain ⟨rfl, hv⟩ := hy
    obtain ⟨v, h1, h2⟩ := rs.get hd
    have e := hv xs hs
    rw [h1] at e; cases e
    exact ⟨B', .refl e2, Rep.mono e1 _ _ h2⟩
def rngD (lo : Int) (n : Nat) : List D := (List.range n).map fun (i : Nat) => .int (lo + (i : Int))
theorem rngD_get {lo : Int} {n i : Nat} {d : D} (h : (rngD lo n)[i]? = some d) : i < n ∧ d = .int (lo + (i : Int)) := by
  unfold rngD at h
  rw [List.getElem?_map] at h
  by_cases hi : i < n
  · rw [List.getElem?_range hi] at h
    exact ⟨hi, (Option.some.inj h).symm⟩
  · rw [List.getElem?_eq_none (by simpa using hi)] at h; cases h
theorem rngD_len {lo : Int} {n : Nat} : (rngD lo n).length = n := by unfold rngD; rw [List.length_map, List.length_range]
theorem walk_rng {K : PySem.W.Frag} {B : Hp} {lo : Int} {n : Nat} : Walk K (Itr lo n) B (rngD lo n) := fun i B' H e1 e2 => by
  refine ⟨fun hi => by rw [rngD_len] at hi; exact hi, fun hi => by rw [rngD_len] at hi; exact hi, fun x H' d hd hy => ?_⟩
  obtain ⟨rfl, rfl⟩ := hy
  obtain ⟨_, rfl⟩ := rngD_get hd
  exact ⟨B', .refl e2, rep_int⟩
def iSeq (f : EB) : EI := fun ss => match f ss with
  | .ok (0, .lst ds) => .ok ds
  | .ok (0, .rdl ds) => .ok ds
  | .ok (_, _) => .no
  | .exc e => .exc e
  | .no => .no
def iTupl (f : EB) : EI := fun ss => match f ss with
  | .ok (0, .tup ds) => .ok ds
  | .ok (_, _) => .no
  | .exc e => .exc e
  | .no => .no
def smallI (i : Int) : Bool := decide (-(2 ^ 62) ≤ i) && decide (i < 2 ^ 62)
def iRg1 (g : EA) : EI := fun ss => match g ss with
  | .ok [.int j] => if smallI j then .ok (rngD 0 j.toNat) else .no
  | .ok _ => .no
  | .exc e => .exc e
  | .no => .no
def iRg2 (g : EA) : EI := fun ss => match g ss with
  | .ok [.int i, .int j] => if smallI i && smallI j then .ok (rngD i (j - i).toNat) else .no
  | .ok _ => .no
  | .exc e => .exc e
  | .no => .no
section
variable {X : Cx} {W : WX} {tg a b c e : Expr} {pos p : Pos} {f : EB} {g1 : EA}
theorem i_list (h : PE X e (tB X.K W f)) : PI X tg e (tI X.K W (iSeq f)) := by
  refine pi_w (pi_list h) fun σ H R hq => ?_
  obtain ⟨B, ss, fps, pi, k⟩ := hq
  refine ⟨B, ss, fps, pi, ?_⟩
  unfold iSeq at k
  cases h : f ss with
  | ok r =>
    obtain ⟨n, d⟩ := r
    rw [h] at k
    cases n <;> cases d <;> first | exact k.elim | skip
    · intro B1 v H1 s1 bw
      have r := bw.rep
      rw [Rep] at r
      obtain ⟨a, xs, rfl, ha, rs⟩ := r
      exact ⟨a, rfl, ⟨xs, SqL.of (s1.bh _ _ ha)⟩, k B1 H1 _ s1 (walk_list (SqL.of ha) rs)⟩
    · intro B1 v H1 s1 bw
      have r := bw.rep
      rw [Rep] at r
      obtain ⟨a, xs, rfl, ha, rs⟩ := r
      exact ⟨a, rfl, ⟨xs, s1.bh.sqL ha⟩, k B1 H1 _ s1 (walk_list ha rs)⟩
  | exc e => rw [h] at k; exact k
  | no => rw [h] at k; exact k
theorem i_tup (h : PE X e (tB X.K W f)) : PI X tg e (tI X.K W (iTupl f)) := by
  refine pi_w (pi_tup h) fun σ H R hq => ?_
  obtain ⟨B, ss, fps, pi, k⟩ := hq
  refine ⟨B, ss, fps, pi, ?_⟩
  unfold iTupl at k
  cases h : f ss with
  | ok r =>
    obtain ⟨n, d⟩ := r
    rw [h] at k
    cases n <;> cases d <;> first | exact k.elim | skip
    intro B1 v H1 s1 bw
    have r := bw.rep
    rw [Rep] at r
    obtain ⟨a, xs, rfl, ha, rs⟩ := r
    exact ⟨a, rfl, ⟨xs, SqT.of (s1.bh _ _ ha)⟩, k B1 H1 _ s1 (walk_tup (SqT.of ha) rs)⟩
  | exc e => rw [h] at k; exact k
  | no => rw [h] at k; exact k
theorem reps1 {K : PySem.W.Frag} {B : Hp} {i : Int} {vs : List V} (h : Reps K B [.int i] vs) : vs = [.int i] := by
  rw [Reps] at h; obtain ⟨v, us, rfl, h1, h2⟩ := h
  rw [Reps] at h2; rw [Rep] at h1; rw [h1, h2]
theorem reps2 {K : PySem.W.Frag} {B : Hp} {i j : Int} {vs : List V} (h : Reps K B [.int i, .int j] vs) : vs = [.int i, .int j] := by
  rw [Reps] at h; obtain ⟨v, us, rfl, h1, h2⟩ := h
  rw [reps1 h2]; rw [Rep] at h1; rw [h1]
theorem smallI_of {i : Int} (h : smallI i = true) : -(2 ^ 62) ≤ i ∧ i < 2 ^ 62 := by
  unfold smallI at h
  rw [Bool.and_eq_true] at h
  exact ⟨of_decide_eq_true h.1, of_decide_eq_true h.2⟩
theorem i_range1 (hg : Gl X "range") (hm : X.mg "range" = none) (ha : PA X [a] (tAh X.K W g1)) (hs : starEach [a] X.env = [(false, eval a X.env)] := by rfl) : PI X tg (.Call (.Name "range" p) [a] [] pos) (tI X.K W (iRg1 g1)) := by
  refine pi_w (pi_range1 hg hm ha hs) fun σ H R hq => ?_
  obtain ⟨B, ss, fps, pi, k⟩ := hq
  refine ⟨B, ss, fps, pi, ?_⟩
  unfold iRg1 at k
  cases h : g1 ss with
  | ok ds =>
    rw [h] at k
    match ds, k with
    | [], k => exact k.elim
    | [.int j], k =>
      intro B1 vs H1 s1 rs
      rw [reps1 rs]
      cases hj : smallI j with
      | false => simp only [hj] at k; exact absurd k (by simp)
      | true =>
        simp only [hj, if_true] at k
        obtain ⟨h1, h2⟩ := smallI_of hj
        exact ⟨j, rfl, h1, h2, k B1 H1 _ s1 walk_rng⟩
    | [.non], k => exact k.elim
    | [.bl _], k => exact k.elim
    | [.str _], k => exact k.elim
    | [.lst _], k => exact k.elim
    | [.tup _], k => exact k.elim
    | [.rdl _], k => exact k.elim
    | [.ins _ _], k => exact k.elim
    | [.exo _], k => exact k.elim
    | d :: e :: r, k => cases d <;> exact k.elim
  | exc e => rw [h] at k; exact k
  | no => rw [h] at k; exact k
theorem i_range2 (hg : Gl X "range") (hm : X.mg "range" = none) (ha : PA X [a, b] (tAh X.K W g1)) (hs : starEach [a, b] X.env = [(false, eval a X.env), (false, eval b X.env)] := by rfl) (hs2 : starEach [b] X.env = [(false, eval b X.env)] := by rfl) :
    PI X tg (.Call (.Name "range" p) [a, b] [] pos) (tI X.K W (iRg2 g1)) := by
  refine pi_w (pi_range2 hg hm ha hs hs2) fun σ H R hq => ?_
  obtain ⟨B, ss, fps, pi, k⟩ := hq
  refine ⟨B, ss, fps, pi, ?_⟩
  unfold iRg2 at k
  cases h : g1 ss with
  | ok ds =>
    rw [h] at k
    by_cases hd : ∃ i j, ds = [.int i, .int j]
    · obtain ⟨i, j, rfl⟩ := hd
      intro B1 vs H1 s1 rs
      rw [reps2 rs]
      cases hi : smallI i with
      | false => simp [hi] at k
      | true =>
        cases hj : smallI j with
        | false => simp [hi, hj] at k
        | true =>
          simp only [hi, hj, Bool.and_self, if_true] at k
          obtain ⟨h1, h2⟩ := smallI_of hi
          obtain ⟨h3, h4⟩ := smallI_of hj
          exact ⟨i, j, rfl, ⟨h1, h2, h3, h4⟩, k B1 H1 _ s1 walk_rng⟩
    · exfalso
      match ds, k, hd with
      | [], k, _ => exact k
      | [d], k, _ => cases d <;> exact k
      | d :: e :: f :: r, k, _ => cases d <;> cases e <;> exact k
      | [d, e], k, hd => cases d <;> cases e <;> first | exact k | exact hd ⟨_, _, rfl⟩
  | exc e => rw [h] at k; exact k
  | no => rw [h] at k; exact k
end

/-! ### targets -/
abbrev Tgt := D → En → Option En
def TgOk (K : PySem.W.Frag) (g : TG) (tgt : Tgt) : Prop := ∀ (B : Hp) (σ : L2.St) (H : Hp) (ss : En) (fps : List (List Addr)) (d : D) (v : V) (s1 : En) (Q : L2.St → Hp → Prop), Pi K B σ H ss fps → Rep K B d v → tgt d ss = some s1 →
  (∀ σ1, (∀ B0 H0, SI K B0 H0 B σ H ss fps → ∃ fps1, SI K B0 H0 B σ1 H s1 fps1) → (∃ fps1, Pi K B σ1 H s1 fps1) → Q σ1 H) → g v σ H Q
def tgName (i : Nat) : Tgt := fun d ss => some (ss.set i (.v 0 d))
def tgPair (i j : Nat) : Tgt := fun d ss => match d with
  | .tup [a, b] => some ((ss.set i (.v 0 a)).set j (.v 0 b))
  | _ => none
section
variable {K : PySem.W.Frag} {B0 H0 B B' H H' : Hp} {σ : L2.St} {ss : En} {fps : List (List Addr)}
theorem SI.set0 (h : SI K B0 H0 B σ H ss fps) {d : D} {v : V} (r : Rep K B d v) (i : Nat) : SI K B0 H0 B (σ.set i (some v)) H (ss.set i (.v 0 d)) (fps.set i []) :=
  h.store (.refl h.pi.bh) (show New K H B H 0 d v [] from ⟨⟨rfl, r⟩, List.nodup_nil, fun a z => nomatch z⟩) i
theorem Pi.set0 (h : Pi K B σ H ss fps) {d : D} {v : V} (r : Rep K B d v) (i : Nat) : Pi K B (σ.set i (some v)) H (ss.set i (.v 0 d)) (fps.set i []) := by
  refine ⟨h.bh, h.al.set (a := Sl.v 0 d) (b := some v) (c := []) ⟨v, rfl, rfl, r⟩ i, nodup_set h.nd List.nodup_nil i (fun _ _ => True.intro) (fun a ha => nomatch ha), fun a ha => ?_⟩
  rcases mem_set_fl ha with z | z
  · exact h.fr a z
  · cases z
theorem Pi.setUn (h : Pi K B σ H ss fps) (i : Nat) : Pi K B (σ.set i none) H (ss.set i .un) (fps.set i []) := by
  refine ⟨h.bh, h.al.set (a := Sl.un) (b := none) (c := []) rfl i, nodup_set h.nd List.nodup_nil i (fun _ _ => True.intro) (fun a ha => nomatch ha), fun a ha => ?_⟩
  rcases mem_set_fl ha with z | z
  · exact h.fr a z
  · cases z
end
theorem tg_name {K : PySem.W.Frag} {i : Nat} : TgOk K (gName i) (tgName i) := by
  intro B σ H ss fps d v s1 Q pi r e k
  cases e
  exact k _ (fun B0 H0 si => ⟨_, si.set0 r i⟩) ⟨_, pi.set0 r i⟩
theorem tg_pair {K : PySem.W.Frag} {i j : Nat} : TgOk K (gTup K 2 (gCons (gName i) (gCons (gName j) gNil))) (tgPair i j) := by
  intro B σ H ss fps d v s1 Q pi r e k
  unfold tgPair at e
  split at e
  · rename_i x y
    cases e
    rw [Rep] at r
    obtain ⟨a, xs, rfl, ha, rs⟩ := r
    rw [Reps] at rs
    obtain ⟨vx, us, rfl, r1, rs⟩ := rs
    rw [Reps] at rs
    obtain ⟨vy, us, rfl, r2, rs⟩ := rs
    rw [Reps] at rs
    subst rs
    exact ⟨a, _, rfl, SqT.of (pi.bh _ _ ha), rfl, vx, [vy], rfl, vy, [], rfl, rfl, k _ (fun B0 H0 si => ⟨_, (si.set0 r1 i).set0 r2 j⟩) ⟨_, (pi.set0 r1 i).set0 r2 j⟩⟩
  · cases e

/-! ### for -/
def loop (step : D → SM) : List D → SM
  | [], ss => .nx ss
  | d :: ds, ss => match step d ss with
    | .nx s' => loop step ds s'
    | .ct s' => loop step ds s'
    | .bk s' => .nx s'
    | o => o
def stepF (tgt : Tgt) (body : SM) : D → SM := fun d ss => match tgt d ss with
  | some s1 => body s1
  | none => .no
def sFor (fi : EI) (tgt : Tgt) (body : SM) : SM := fun ss => match fi ss with
  | .ok ds => loop (stepF tgt body) ds ss
  | .exc e => .exc e ss
  | .no => .no
section
variable {K : PySem.W.Frag} {W : WX} {B0 H0 B B1 H H1 : Hp} {E : Ends}
/-- the entry may be taken to have the greater base -/
theorem Stp.low (s : Stp B0 H0 B1 H1) : Stp B1 H0 B1 H1 := ⟨Le.refl _, s.hh, s.bh, fun _ z _ => z⟩
theorem Stp.up (s : Stp B0 H0 B1 H1) {B2 H2 : Hp} (t : Stp B1 H0 B2 H2) : Stp B0 H0 B2 H2 := ⟨s.bb.trans t.bb, t.hh, t.bh, fun a z1 z2 => t.dj a (s.dj a z1 z2) z2⟩
theorem SI.low {σ : L2.St} {ss : En} {fps : List (List Addr)} (h : SI K B0 H0 B σ H ss fps) : SI K B H0 B σ H ss fps := ⟨h.pi, h.st.low, h.fr⟩
theorem SI.up (s : Stp B0 H0 B1 H1) {σ : L2.St} {B2 H2 : Hp} {ss : En} {fps : List (List Addr)} (h : SI K B1 H0 B2 σ H2 ss fps) : SI K B0 H0 B2 σ H2 ss fps := ⟨h.pi, s.up h.st, h.fr⟩
end
section
variable {X : Cx} {W : WX} {tg it e : Expr} {pos p : Pos} {fi : EI} {g : TG} {tgt : Tgt} {F : SM} {body : List Stmt}
theorem s_for (hp : PassesOwn (model X.prog X.w) X.A X.env X.xe) (hc : X.calm = true) (hi : PI X tg it (tI X.K W fi)) (hg : PG X tg g) (ht : TgOk X.K g tgt) (hb : PSs X body (tS X.K W F)) (hs : ∀ x, foldedSetIterable it X.env x = pure x := by intro _; rfl) :
    PS X (.For tg it body [] pos) (tS X.K W (sFor fi tgt F)) := by
  refine ps_w (ps_for hp hc hi hg hb hs) fun E σ H hq => ?_
  obtain ⟨B0, H0, B, ss, fps, si, k⟩ := tS_get hq
  refine ⟨B, ss, fps, si.pi, ?_⟩
  unfold sFor at k
  cases h : fi ss with
  | ok ds =>
    rw [h] at k
    intro B1 H1 J s1 wk
    have si1 := si.step s1
    refine ⟨fun i m σ' H' => m = ds.length - i ∧ i ≤ ds.length ∧ ∃ B' ss' fps', SI X.K B1 H0 B' σ' H' ss' fps' ∧ Post X.K W B0 H0 E (loop (stepF tgt F) (ds.drop i) ss'), ⟨ds.length, by simp, Nat.zero_le _, B1, ss, fps, si1.low, by rw [List.drop_zero]; exact k⟩, ?_⟩
    rintro i m σ' H' ⟨rfl, hi, B', ss', fps', si', q⟩
    obtain ⟨w1, w2, w3⟩ := wk i B' H' si'.st.bb si'.st.bh
    by_cases hlt : i < ds.length
    · refine .inr ⟨w1 hlt, fun σ2 H2 => ∃ B2 ss2 fps2, SI X.K B1 H0 B2 σ2 H2 ss2 fps2 ∧ Post X.K W B0 H0 E (loop (stepF tgt F) (ds.drop (i + 1)) ss2), fun σ2 H2 ⟨B2, ss2, fps2, si2, q2⟩ => ⟨ds.length - (i + 1), by omega, rfl, hlt, B2, ss2, fps2, si2, q2⟩, fun x H2 hy => ?_⟩
      have hd : ds.drop i = ds[i] :: ds.drop (i + 1) := List.drop_eq_getElem_cons hlt
      obtain ⟨B2, st2, rx⟩ := w3 x H2 ds[i] (List.getElem?_eq_getElem hlt) hy
      rw [hd] at q
      unfold loop at q
      unfold stepF at q
      cases ht1 : tgt ds[i] ss' with
      | none => simp only [ht1] at q; exact q.elim
      | some s1' =>
        simp only [ht1] at q
        have si2 := si'.step st2
        refine ht B2 σ' H2 ss' fps' ds[i] x s1' _ si2.pi rx ht1 fun σ3 up _ => ?_
        obtain ⟨fps3, si3⟩ := up B1 H0 si2
        refine tS_mk si3 ?_
        cases hb1 : F s1' with
        | nx s4 => simp only [hb1] at q; exact fun B4 σ4 H4 fps4 si4 => ⟨B4, s4, fps4, si4, q⟩
        | ct s4 => simp only [hb1] at q; exact fun B4 σ4 H4 fps4 si4 => ⟨B4, s4, fps4, si4, q⟩
        | bk s4 => simp only [hb1] at q; exact fun B4 σ4 H4 fps4 si4 => q B4 σ4 H4 fps4 (si4.up si1.st)
        | rt n d => simp only [hb1] at q; exact fun B4 v4 H4 fp4 st4 nw => q B4 v4 H4 fp4 (si1.st.up st4) nw
        | exc e s4 => simp only [hb1] at q; exact fun B4 σ4 H4 fps4 cls dd si4 ex => q B4 σ4 H4 fps4 cls dd (si4.up si1.st) ex
        | no => simp only [hb1] at q; exact q.elim
    · have e : i = ds.length := by omega
      refine .inl ⟨w2 (Nat.le_of_eq e.symm), ?_⟩
      rw [List.drop_eq_nil_of_le (Nat.le_of_eq e.symm)] at q
      exact q B' σ' H' fps' (si'.up si1.st)
  | exc e => rw [h] at k; exact fun B' cls dd H' st ex => k B' σ H' fps cls dd (si.step st) ex
  | no => rw [h] at k; exact k

/-! ### while -/
def whl (t : ET) (F : SM) : Nat → SM
  | 0, _ => .no
  | n + 1, ss => match t ss with
    | .ok true => (match F ss with
      | .nx s' => whl t F n s'
      | .ct s' => whl t F n s'
      | .bk s' => .nx s'
      | o => o)
    | .ok false => .nx ss
    | .exc e => .exc e ss
    | .no => .no
theorem whl_mono (t : ET) (F : SM) : ∀ (n : Nat) (ss : En), whl t F n ss ≠ .no → ∀ k, whl t F (n + k) ss = whl t F n ss
  | 0, ss, h, _ => absurd rfl h
  | n + 1, ss, h, k => by
    rw [show n + 1 + k = (n + k) + 1 by omega]
    unfold whl at h ⊢
    cases ht : t ss with
    | ok b =>
      rw [ht] at h
      cases b with
      | true =>
        cases hf : F ss with
        | nx s' => simp only [hf] at h ⊢; exact whl_mono t F n s' h k
        | ct s' => simp only [hf] at h ⊢; exact whl_mono t F n s' h k
        | bk s' => rfl
        | rt n d => rfl
        | exc e s' => rfl
        | no => rfl
      | false => rfl
    | exc e => rfl
    | no => rfl
open Classical in
noncomputable def sWh (t : ET) (F : SM) : SM := fun ss => if h : ∃ n, whl t F n ss ≠ .no then whl t F (Classical.choose h) ss else .no
theorem sWh_eq {t : ET} {F : SM} {ss : En} {n : Nat} {o : SO} (h : whl t F n ss = o) (ho : o ≠ .no) : sWh t F ss = o := by
  have hx : ∃ n, whl t F n ss ≠ .no := ⟨n, by rw [h]; exact ho⟩
  unfold sWh
  rw [dif_pos hx]
  have h1 := Classical.choose_spec hx
  rcases Nat.le_total (Classical.choose hx) n with q | q
  · obtain ⟨k, hk⟩ := Nat.exists_eq_add_of_le q
    have := whl_mono t F _ ss h1 k
    rw [← hk, h] at this
    exact this.symm
  · obtain ⟨k, hk⟩ := Nat.exists_eq_add_of_le q
    have := whl_mono t F n ss (by rw [h]; exact ho) k
    rw [← hk, h] at this
    exact this
theorem s_while {c : Expr} {t1 : ET} (hp : PassesOwn (model X.prog X.w) X.A X.env X.xe) (hc : PT X c (tT X.K W t1)) (hb : PSs X body (tS X.K W F)) : PS X (.While c body [] pos) (tS X.K W (sWh t1 F)) := by
  refine ps_w (ps_while hp hc hb) fun E σ H hq => ?_
  obtain ⟨B0, H0, B, ss, fps, si, k⟩ := tS_get hq
  by_cases hx : ∃ n, whl t1 F n ss ≠ .no
  · have hk : Post X.K W B0 H0 E (whl t1 F (Classical.choose hx) ss) := by
      have e : sWh t1 F ss = whl t1 F (Classical.choose hx) ss := by unfold sWh; rw [dif_pos hx]
      rw [← e]; exact k
    generalize Classical.choose hx = n at hk
    refine ⟨fun m σ' H' => ∃ B' ss' fps', SI X.K B0 H0 B' σ' H' ss' fps' ∧ Post X.K W B0 H0 E (whl t1 F m ss'), ⟨n, B, ss, fps, si, hk⟩, ?_⟩
    rintro m σ' H' ⟨B', ss', fps', si', q⟩
    refine ⟨B', ss', fps', si'.pi, ?_⟩
    cases m with
    | zero => exact q.elim
    | succ m =>
      unfold whl at q
      cases ht : t1 ss' with
      | ok b =>
        simp only [ht] at q
        cases b with
        | true =>
          intro B2 H2 s2
          refine ⟨fun σ3 H3 => ∃ B3 ss3 fps3, SI X.K B0 H0 B3 σ3 H3 ss3 fps3 ∧ Post X.K W B0 H0 E (whl t1 F m ss3), fun σ3 H3 w => ⟨m, Nat.lt_succ_self m, w⟩, tS_mk (si'.step s2) ?_⟩
          cases hb1 : F ss' with
          | nx s4 => simp only [hb1] at q; exact fun B4 σ4 H4 fps4 si4 => ⟨B4, s4, fps4, si4, q⟩
          | ct s4 => simp only [hb1] at q; exact fun B4 σ4 H4 fps4 si4 => ⟨B4, s4, fps4, si4, q⟩
          | bk s4 => simp only [hb1] at q; exact q
          | rt n d => simp only [hb1] at q; exact q
          | exc e s4 => simp only [hb1] at q; exact q
          | no => simp only [hb1] at q; exact q.elim
        | false => exact fun B2 H2 s2 => q B2 σ' H2 fps' (si'.step s2)
      | exc e => simp only [ht] at q; exact fun B2 cls dd H2 st ex => q B2 σ' H2 fps' cls dd (si'.step st) ex
      | no => simp only [ht] at q; exact q
  · exfalso
    have e : sWh t1 F ss = .no := by unfold sWh; rw [dif_neg hx]
    rw [e] at k
    exact k
end
end Mv

namespace Mv
open PySem L2

/-! ### a change of an owned cell -/
section
variable {K : PySem.W.Frag} {B0 H0 B B' H H' : Hp} {σ : St} {ss : En} {fps : List (List Addr)}
theorem New.step {n : Nat} {d : D} {v : V} {fp : List Addr} (h : New K H0 B H n d v fp) (s : Stp B H B' H') : New K H0 B' H' n d v fp := by
  refine ⟨h.ow.le s.bb s.hh, h.nd, fun a ha => ⟨s.dj a (h.fr a ha).1 ?_, (h.fr a ha).2⟩⟩
  obtain ⟨xs, e⟩ := h.ow.at a ha
  rw [e]; exact fun z => nomatch z
theorem apart_of : ∀ {l : List (List Addr)} {i j : Nat} {c d : List Addr}, l.flatten.Nodup → l[i]? = some c → l[j]? = some d → j ≠ i → ∀ a ∈ d, a ∉ c := by
  intro l
  induction l with
  | nil => intro i j c d _ q; simp at q
  | cons x xs ih =>
    intro i j c d nd q1 q2 ne a ha hc
    rw [List.flatten_cons] at nd
    obtain ⟨n1, n2, n3⟩ := List.nodup_append.mp nd
    cases i with
    | zero =>
      cases j with
      | zero => exact ne rfl
      | succ j =>
        simp at q1 q2
        subst q1
        exact n3 a hc a (mem_fl (List.mem_of_getElem? q2) ha) rfl
    | succ i =>
      cases j with
      | zero =>
        simp at q1 q2
        subst q2
        exact n3 a ha a (mem_fl (List.mem_of_getElem? q1) hc) rfl
      | succ j =>
        exact ih n2 (by simpa using q1) (by simpa using q2) (fun z => ne (by rw [z])) a ha hc
theorem all3_ix {α β γ : Type} {R S : α → β → γ → Prop} {as : List α} {bs : List β} {cs : List γ} (h : All3 R as bs cs) (k : ∀ (j : Nat) a b c, cs[j]? = some c → R a b c → S a b c) : All3 S as bs cs := by
  induction h with
  | nil => exact .nil
  | cons r t ih => exact .cons (k 0 _ _ _ (by simp) r) (ih fun j a b c hc => k (j + 1) a b c (by simpa using hc))
theorem all3_ixset {α β γ : Type} {R S : α → β → γ → Prop} {as : List α} {bs : List β} {cs : List γ} (h : All3 R as bs cs) {i : Nat} (k : ∀ (j : Nat) a b c, j ≠ i → cs[j]? = some c → R a b c → S a b c) {a : α} {b : β} {c : γ} (r : S a b c) : All3 S (as.set i a) (bs.set i b) (cs.set i c) := by
  induction h
    generalizing i with
  | nil => exact .nil
  | cons r0 t ih =>
    cases i with
    | zero => exact .cons r (all3_ix t fun j a b c hc => k (j + 1) a b c (by omega) (by simpa using hc))
    | succ i => exact .cons (k 0 _ _ _ (by omega) (by simp) r0) (ih fun j a b c hj hc => k (j + 1) a b c (by omega) (by simpa using hc))
/-- slot i owns the list at p; its items are changed, what is owned may come from a fresh value -/
theorem SI.cell (h : SI K B0 H0 B σ H ss fps) {i n : Nat} {ds ds' : List D} {p : Addr} {xs xs' : List V} {fpc fpc' : List (List Addr)} (hs : ss[i]? = some (.v (n + 1) (.lst ds))) (hσ : σ[i]? = some (some (.ref p))) (hf : fps[i]? = some (p :: fpc.flatten))
    (hp : H p = some (.lst xs)) (al : All3 (Ow K B (upd H p (.lst xs')) n) ds' xs' fpc') (nd : (p :: fpc'.flatten).Nodup)
    (fr : ∀ a ∈ fpc'.flatten, a ∈ fpc.flatten ∨ (a ∉ fps.flatten ∧ B a = none ∧ H0 a = none)) :
    SI K B0 H0 B σ (upd H p (.lst xs')) (ss.set i (.v (n + 1) (.lst ds'))) (fps.set i (p :: fpc'.flatten)) := by
  have hm : (p :: fpc.flatten) ∈ fps := List.mem_of_getElem? hf
  have pB : B p = none := h.pi.fr p (mem_fl hm List.mem_cons_self)
  have pH0 : H0 p = none := h.fr p (mem_fl hm List.mem_cons_self)
  have bh : Le B (upd H p (.lst xs')) := Le.mut h.pi.bh pB
  have q : All3 (slotOk K B (upd H p (.lst xs'))) (ss.set i (.v (n + 1) (.lst ds'))) (σ.set i (some (.ref p))) (fps.set i (p :: fpc'.flatten)) := by
    refine all3_ixset h.pi.al (fun j s o c hj hc r => r.mono (Le.refl B) fun a ha => ?_) ⟨.ref p, rfl, ds', p, xs', fpc', rfl, rfl, upd_same, rfl, al⟩
    have : a ≠ p := fun z => apart_of h.pi.nd hf hc hj a ha (by rw [z]; exact List.mem_cons_self)
    rw [upd_ne this]
  rw [set_same hσ] at q
  have frB : ∀ a ∈ (fps.set i (p :: fpc'.flatten)).flatten, B a = none ∧ H0 a = none := fun a ha => by
    rcases mem_set_fl ha with z | z
    · exact ⟨h.pi.fr a z, h.fr a z⟩
    · rcases List.mem_cons.mp z with e | e
      · rw [e]; exact ⟨pB, pH0⟩
      · rcases fr a e with w | w
        · exact ⟨h.pi.fr a (mem_fl hm (List.mem_cons_of_mem _ w)), h.fr a (mem_fl hm (List.mem_cons_of_mem _ w))⟩
        · exact w.2
  refine ⟨⟨bh, q, nodup_set h.pi.nd nd i (fun _ _ => True.intro) fun a ha c hc hac => ?_, fun a ha => (frB a ha).1⟩, ⟨h.st.bb, Le.mut h.st.hh pH0, bh, h.st.dj⟩, fun a ha => (frB a ha).2⟩
  rcases List.mem_cons.mp ha with e | e
  · exact ⟨_, hf, by rw [e]; exact List.mem_cons_self⟩
  · rcases fr a e with w | w
    · exact ⟨_, hf, List.mem_cons_of_mem _ w⟩
    · exact absurd (mem_fl hc hac) w.1
/-- what a slot owns -/
theorem SI.own (h : SI K B0 H0 B σ H ss fps) {i n : Nat} {d : D} (hs : ss[i]? = some (.v (n + 1) d)) : ∃ ds p xs fpc, d = .lst ds ∧ σ[i]? = some (some (.ref p)) ∧ fps[i]? = some (p :: fpc.flatten) ∧ H p = some (.lst xs) ∧ All3 (Ow K B H n) ds xs fpc := by
  obtain ⟨o, fp, h1, h2, v, h3, ds, p, xs, fpc, e, h4, h5, h6, h7⟩ := h.pi.al.get hs
  subst h3 h4 h6
  exact ⟨ds, p, xs, fpc, e, h1, h2, h5, h7⟩
theorem flatten_app1 {α : Type} (l : List (List α)) (c : List α) : (l ++ [c]).flatten = l.flatten ++ c := by rw [List.flatten_append, List.flatten_cons, List.flatten_nil, List.append_nil]
/-- x.append(..) -/
theorem SI.app (h : SI K B0 H0 B σ H ss fps) {i n : Nat} {ds : List D} (hs : ss[i]? = some (.v (n + 1) (.lst ds))) {d : D} {v : V} {fp : List Addr} {Hx : Hp} (nw : New K Hx B H n d v fp) (hx : ∀ a ∈ fps.flatten, Hx a ≠ none) (h0 : Le H0 Hx) :
    ∃ p xs fps', σ[i]? = some (some (.ref p)) ∧ H p = some (.lst xs) ∧ ds.length = xs.length ∧ SI K B0 H0 B σ (upd H p (.lst (xs ++ [v]))) (ss.set i (.v (n + 1) (.lst (ds ++ [d])))) fps' := by
  obtain ⟨ds', p, xs, fpc, e, h1, h2, h3, al⟩ := h.own hs
  cases e
  have hm : (p :: fpc.flatten) ∈ fps := List.mem_of_getElem? h2
  have fresh : ∀ a ∈ fp, a ∉ fps.flatten := fun a ha z => hx a z (nw.fr a ha).2
  have nd0 := nd_mem h.pi.nd hm
  obtain ⟨n1, n2⟩ := List.nodup_cons.mp nd0
  have keep : ∀ a, a ≠ p → upd H p (.lst (xs ++ [v])) a = H a := fun a ha => upd_ne ha
  refine ⟨p, xs, _, h1, h3, al.len1, h.cell (fpc' := fpc ++ [fp]) hs h1 h2 h3 ?_ ?_ ?_⟩
  · refine All3.append (all3_ix al fun j a b c hc r => r.mono (Le.refl B) fun x hxx => keep x fun z => n1 (by rw [← z]; exact mem_fl (List.mem_of_getElem? hc) hxx)) (.cons ?_ .nil)
    exact nw.ow.mono (Le.refl B) fun x hxx => keep x fun z => fresh x hxx (mem_fl hm (by rw [z]; exact List.mem_cons_self))
  · rw [flatten_app1]
    refine List.nodup_cons.mpr ⟨fun z => ?_, List.nodup_append.mpr ⟨n2, nw.nd, fun a ha b hb e => ?_⟩⟩
    · rcases List.mem_append.mp z with z | z
      · exact n1 z
      · exact fresh p z (mem_fl hm List.mem_cons_self)
    · subst e
      exact fresh a hb (mem_fl hm (List.mem_cons_of_mem _ ha))
  · intro a ha
    rw [flatten_app1] at ha
    rcases List.mem_append.mp ha with z | z
    · exact .inl z
    · exact .inr ⟨fresh a z, (nw.fr a z).1, h0.back (nw.fr a z).2⟩
/-- x[k] = .. -/
theorem SI.setI (h : SI K B0 H0 B σ H ss fps) {i n : Nat} {ds : List D} (hs : ss[i]? = some (.v (n + 1) (.lst ds))) {d : D} {v : V} {fp : List Addr} {Hx : Hp} (nw : New K Hx B H n d v fp) (hx : ∀ a ∈ fps.flatten, Hx a ≠ none) (h0 : Le H0 Hx) {k : Int} {j : Nat} (hk : ixN ds.length k = some j) :
    ∃ p xs fps', σ[i]? = some (some (.ref p)) ∧ H p = some (.lst xs) ∧ ixN xs.length k = some j ∧ SI K B0 H0 B σ (upd H p (.lst (xs.set j v))) (ss.set i (.v (n + 1) (.lst (ds.set j d)))) fps' := by
  obtain ⟨ds', p, xs, fpc, e, h1, h2, h3, al⟩ := h.own hs
  cases e
  have hm : (p :: fpc.flatten) ∈ fps := List.mem_of_getElem? h2
  have fresh : ∀ a ∈ fp, a ∉ fps.flatten := fun a ha z => hx a z (nw.fr a ha).2
  have nd0 := nd_mem h.pi.nd hm
  obtain ⟨n1, n2⟩ := List.nodup_cons.mp nd0
  have keep : ∀ a, a ≠ p → upd H p (.lst (xs.set j v)) a = H a := fun a ha => upd_ne ha
  refine ⟨p, xs, _, h1, h3, by rw [← al.len1]; exact hk, h.cell (fpc' := fpc.set j fp) hs h1 h2 h3 ?_ ?_ ?_⟩
  · refine all3_ixset al (fun m a b c hm2 hc r => r.mono (Le.refl B) fun x hxx => keep x fun z => n1 (by rw [← z]; exact mem_fl (List.mem_of_getElem? hc) hxx)) ?_
    exact nw.ow.mono (Le.refl B) fun x hxx => keep x fun z => fresh x hxx (mem_fl hm (by rw [z]; exact List.mem_cons_self))
  · refine List.nodup_cons.mpr ⟨fun z => ?_, nodup_set n2 nw.nd j (fun _ _ => True.intro) fun a ha c hc hac => absurd (mem_fl hm (List.mem_cons_of_mem _ (mem_fl hc hac))) (fresh a ha)⟩
    rcases mem_set_fl z with z | z
    · exact n1 z
    · exact fresh p z (mem_fl hm List.mem_cons_self)
  · intro a ha
    rcases mem_set_fl ha with z | z
    · exact .inl z
    · exact .inr ⟨fresh a z, (nw.fr a z).1, h0.back (nw.fr a z).2⟩
end
def sApp (i : Nat) (f : EB) : SM := fun ss => match ss[i]? with
  | some (.v (n + 1) (.lst ds)) => (match f ss with
    | .ok (m, d) => if m = n ∧ ds.length < 10000000 then .nx (ss.set i (.v (n + 1) (.lst (ds ++ [d])))) else .no
    | .exc e => .exc e ss
    | .no => .no)
  | _ => .no
def sSetI (i : Nat) (fi f : EB) : SM := fun ss => match f ss with
  | .ok (m, d) => (match fi ss with
    | .ok (_, .int k) => (match ss[i]? with
      | some (.v (n + 1) (.lst ds)) => (match ixN ds.length k with
        | some j => if m = n then .nx (ss.set i (.v (n + 1) (.lst (ds.set j d)))) else .no
        | none => .no)
      | _ => .no)
    | .ok (_, _) => .no
    | .exc _ => .no
    | .no => .no)
  | .exc e => .exc e ss
  | .no => .no
def sAug (i : Nat) (g : Int → Int → Int) (f : EB) : SM := fun ss => match ss[i]? with
  | some (.v 0 (.int a)) => (match f ss with
    | .ok (_, .int b) => .nx (ss.set i (.v 0 (.int (g a b))))
    | .ok (_, _) => .no
    | .exc e => .exc e ss
    | .no => .no)
  | _ => .no
theorem size_lt {n : Nat} (h : n < 10000000) : n < sizeLine := by rw [sizeLine_eq]; omega
section
variable {X : Cx} {W : WX} {e a b : Expr} {pos : Pos} {f f1 fi : EB}
theorem s_app (i : Nat) {x : Str} {p apos cpos : Pos} (he : PE X e (tM X.K W f)) (hN : X.N[i]? = some x := by rfl) (hv : Vis X.env.scope x := by first | exact Or.inl rfl | exact Or.inr (Or.inl rfl) | exact Or.inr (Or.inr rfl)) (hd : (x == ("__debug__" : Str)) = false := by decide)
    (hcd : (x == ("__classdict__" : Str)) = false := by decide)
    (hbase : attributeBase (.Name x p) "append" X.env (eval (.Name x p) X.env) = eval (.Name x p) X.env := by rfl)
    (hfew : ((backTo cpos (starEach [e] X.env)).all (fun x => !x.1) && (backToKw cpos (keywordEach [] X.env)).all (fun x => x.1.isSome) && decide (([e] : List Expr).length + ([] : List Keyword).length + (if ([] : List Keyword).isEmpty then 0 else 1) < 30)) = true := by rfl)
    (hline : (apos.endLine == cpos.line) = true := by rfl) (hs : starEach [e] X.env = (false, eval e X.env) :: starEach [] X.env := by rfl) (hplain : (backTo cpos (starEach [] X.env)).any (·.1) = false := by rfl)
    (hsw : swapsWith (.Call (.Attribute (.Name x p) "append" apos) [e] [] cpos) none pos.line X.env = pure false := by rfl) :
    PS X (.Expr (.Call (.Attribute (.Name x p) "append" apos) [e] [] cpos) pos) (tS X.K W (sApp i f)) := by
  refine ps_w (ps_expr (pe_bm PySem.F.plainAttrs_list PySem.F.slot_list_append PySem.F.type_list_append mt_append (pe_var hN hv hd hcd) (pa_cons he pa_nil hs) hbase hfew hline hs hplain) hsw) fun E σ H hq => ?_
  obtain ⟨B0, H0, B, ss, fps, si, k⟩ := tS_get hq
  unfold sApp at k
  split at k
  · rename_i n ds hi
    obtain ⟨ds', p, xs, fpc, e0, h1, h2, h3, al⟩ := si.own hi
    cases e0
    refine ⟨.ref p, h1, .inl ⟨rfl, _, SqL.of h3⟩, B, ss, fps, si.pi, ?_⟩
    cases hf : f ss with
    | ok r =>
      obtain ⟨m, d⟩ := r
      simp only [hf] at k
      intro B1 v H1 fp s1 nw
      by_cases hc : m = n ∧ ds.length < 10000000
      · rw [if_pos hc] at k
        obtain ⟨rfl, hl⟩ := hc
        obtain ⟨p2, xs2, fps', q1, q2, q3, q4⟩ := (si.step s1).app hi nw (fun a ha => by obtain ⟨ys, e⟩ := si.pi.here a ha; rw [e]; exact fun z => nomatch z) si.st.hh
        rw [h1] at q1
        cases q1
        exact ⟨p, xs2, v, rfl, rfl, q2, by rw [← q3]; exact size_lt hl, k B1 σ _ fps' q4⟩
      · rw [if_neg hc] at k; exact k.elim
    | exc e => simp only [hf] at k; exact fun B' cls dd H' st ex => k B' σ H' fps cls dd (si.step st) ex
    | no => simp only [hf] at k; exact k.elim
  · exact k.elim
theorem s_setI (i : Nat) {x : Str} {p p2 : Pos} (he : PE X e (tM X.K W f)) (hb : PE X b (tB X.K W fi)) (hN : X.N[i]? = some x := by rfl) (hv : Vis X.env.scope x := by first | exact Or.inl rfl | exact Or.inr (Or.inl rfl) | exact Or.inr (Or.inr rfl)) (hd : (x == ("__debug__" : Str)) = false := by decide)
    (hcd : (x == ("__classdict__" : Str)) = false := by decide)
    (has : ∀ v, assign (.Subscript (.Name x p) b p2) X.env v = (do
      let xs ← holding [v] (eval (.Name x p) X.env)
      let k ← holding [v, xs] (eval b X.env)
      standAt p2
      holding [v, xs, k] (setItem xs k v)
      release [v, xs, k] []) := by intro _; rfl)
    (hs : swapsWithSole [(.Subscript (.Name x p) b p2 : Expr)] e pos.line X.env = pure false := by rfl) (hw : swappedStores [(.Subscript (.Name x p) b p2 : Expr)] e X.env = pure none := by rfl) :
    PS X (.Assign [.Subscript (.Name x p) b p2] e pos) (tS X.K W (sSetI i fi f)) := by
  refine ps_w (ps_asg he (pg_sub (pe_var hN hv hd hcd) hb set_list has) hs hw) fun E σ H hq => ?_
  obtain ⟨B0, H0, B, ss, fps, si, k⟩ := tS_get hq
  refine ⟨B, ss, fps, si.pi, ?_⟩
  unfold sSetI at k
  cases hf : f ss with
  | ok r =>
    obtain ⟨m, d⟩ := r
    simp only [hf] at k
    intro B1 v H1 fp s1 nw
    have si1 := si.step s1
    cases hfi : fi ss with
    | ok r2 =>
      obtain ⟨m2, d2⟩ := r2
      simp only [hfi] at k
      cases d2 <;> first | exact k.elim | skip
      rename_i kk
      simp only [] at k
      split at k
      · rename_i n ds hi
        split at k
        · rename_i j hj
          by_cases hmn : m = n
          · rw [if_pos hmn] at k
            subst hmn
            obtain ⟨ds', p3, xs, fpc, e0, h1, h2, h3, al⟩ := si1.own hi
            cases e0
            refine ⟨.ref p3, h1, B1, ss, fps, si1.pi, ?_⟩
            rw [hfi]
            intro B2 w H2 s2 bw
            have ew := bw.flat (B' := B2) rfl
            rw [Rep] at ew
            subst ew
            obtain ⟨p4, xs4, fps', q1, q2, q3, q4⟩ := (si1.step s2).setI hi (nw.step s2) (fun a ha => by obtain ⟨ys, e⟩ := si.pi.here a ha; rw [e]; exact fun z => nomatch z) si.st.hh hj
            rw [h1] at q1
            cases q1
            exact ⟨p3, xs4, kk, j, rfl, rfl, q2, q3, k B2 σ _ fps' q4⟩
          · rw [if_neg hmn] at k; exact k.elim
        · exact k.elim
      · exact k.elim
    | exc e => simp only [hfi] at k; exact k.elim
    | no => simp only [hfi] at k; exact k.elim
  | exc e => simp only [hf] at k; exact fun B' cls dd H' st ex => k B' σ H' fps cls dd (si.step st) ex
  | no => simp only [hf] at k; exact k.elim
end
end Mv

namespace Mv
open PySem L2

/-! ### comprehensions -/
def wipeS (ss : En) : List Nat → En
  | [] => ss
  | v :: vs => (wipeS ss vs).set v .un
def wipeF (fps : List (List Addr)) : List Nat → List (List Addr)
  | [] => fps
  | v :: vs => (wipeF fps vs).set v []
theorem Pi.wipe {K : PySem.W.Frag} {B H : Hp} {σ : L2.St} {ss : En} {fps : List (List Addr)} (h : Pi K B σ H ss fps) : ∀ vs : List Nat, Pi K B (wipe σ vs) H (wipeS ss vs) (wipeF fps vs)
  | [] => h
  | v :: vs => (Pi.wipe h vs).setUn v
theorem wipe_at (σ : L2.St) : ∀ (vs : List Nat) (i : Nat), (wipe σ vs)[i]? = if i ∈ vs ∧ i < σ.length then some none else σ[i]?
  | [], i => by rw [if_neg (by simp)]; rfl
  | v :: vs, i => by
    show ((wipe σ vs).set v none)[i]? = _
    rw [List.getElem?_set, wipe_length, wipe_at σ vs i]
    by_cases hv : v = i
    · subst hv
      by_cases hl : v < σ.length
      · simp [hl]
      · simp [hl]
    · rw [if_neg hv]
      by_cases hm : i ∈ vs
      · simp [hm]
      · have : i ∉ v :: vs := by simp [hm, Ne.symm hv]
        simp [hm, this]
theorem wipe_set {σ : L2.St} {vs : List Nat} {j : Nat} (hj : j ∈ vs) (o : Option V) : wipe ((wipe σ vs).set j o) vs = wipe σ vs := by
  apply List.ext_getElem?
  intro i
  rw [wipe_at, wipe_at, List.length_set, wipe_length, List.getElem?_set, wipe_length, wipe_at]
  by_cases hc : i ∈ vs ∧ i < σ.length
  · rw [if_pos hc, if_pos hc]
  · rw [if_neg hc, if_neg hc]
    by_cases hji : j = i
    · subst hji
      have hl : ¬ j < σ.length := fun z => hc ⟨hj, z⟩
      rw [if_pos rfl, if_neg hl, List.getElem?_eq_none (by omega)]
    · rw [if_neg hji]
theorem wipe_wipe {σ : L2.St} {vs : List Nat} : wipe (wipe σ vs) vs = wipe σ vs := by
  apply List.ext_getElem?
  intro i
  rw [wipe_at, wipe_at, wipe_length]
  by_cases hc : i ∈ vs ∧ i < σ.length
  · rw [if_pos hc, if_pos hc]
  · rw [if_neg hc, if_neg hc]
theorem wipe_of {σ τ : L2.St} {vs : List Nat} (hl : τ.length = σ.length) (h : ∀ i : Nat, i ∉ vs → τ[i]? = (wipe σ vs)[i]?) : wipe τ vs = wipe σ vs := by
  apply List.ext_getElem?
  intro i
  rw [wipe_at, wipe_at, hl]
  by_cases hi : i ∈ vs
  · by_cases hh : i < σ.length
    · rw [if_pos ⟨hi, hh⟩, if_pos ⟨hi, hh⟩]
    · rw [if_neg (fun z => hh z.2), if_neg (fun z => hh z.2), List.getElem?_eq_none (by omega), List.getElem?_eq_none (by omega)]
  · rw [if_neg (fun z => hi z.1), if_neg (fun z => hi z.1), h i hi, wipe_at, if_neg (fun z => hi z.1)]
/-- a comprehension's target writes its own names alone -/
def TgW (K : PySem.W.Frag) (g : TG) (tgt : Tgt) (vs : List Nat) : Prop := ∀ (B : Hp) (σ : L2.St) (H : Hp) (ss : En) (fps : List (List Addr)) (d : D) (v : V) (s1 : En) (Q : L2.St → Hp → Prop), Pi K B (wipe σ vs) H ss fps → Rep K B d v → tgt d ss = some s1 →
  (∀ σ1 fps1, wipe σ1 vs = wipe σ vs → Pi K B σ1 H s1 fps1 → Q σ1 H) → g v (wipe σ vs) H Q
theorem tw_name {K : PySem.W.Frag} {i : Nat} {vs : List Nat} (hi : i ∈ vs) : TgW K (gName i) (tgName i) vs := by
  intro B σ H ss fps d v s1 Q pi r e k
  cases e
  exact k _ _ (wipe_set hi _) (pi.set0 r i)
theorem tw_pair {K : PySem.W.Frag} {i j : Nat} {vs : List Nat} (hi : i ∈ vs) (hj : j ∈ vs) : TgW K (gTup K 2 (gCons (gName i) (gCons (gName j) gNil))) (tgPair i j) vs := by
  intro B σ H ss fps d v s1 Q pi r e k
  unfold tgPair at e
  split at e
  · rename_i x y
    cases e
    rw [Rep] at r
    obtain ⟨a, xs, rfl, ha, rs⟩ := r
    rw [Reps] at rs
    obtain ⟨vx, us, rfl, r1, rs⟩ := rs
    rw [Reps] at rs
    obtain ⟨vy, us, rfl, r2, rs⟩ := rs
    rw [Reps] at rs
    subst rs
    refine ⟨a, _, rfl, SqT.of (pi.bh _ _ ha), rfl, vx, [vy], rfl, vy, [], rfl, rfl, k _ _ ?_ ((pi.set0 r1 i).set0 r2 j)⟩
    refine wipe_of (by rw [List.length_set, List.length_set, wipe_length]) fun m hm => ?_
    rw [List.getElem?_set_ne (fun z => hm (by rw [← z]; exact hj)), List.getElem?_set_ne (fun z => hm (by rw [← z]; exact hi))]
  · cases e
def lcL (tgt : Tgt) (tc : ET) (fe : EB) (sw : En) : List D → Res (List D)
  | [] => .ok []
  | d :: ds => match tgt d sw with
    | some s1 => (match tc s1 with
      | .ok true => (match fe s1 with
        | .ok (0, e) => (match lcL tgt tc fe sw ds with
          | .ok r => .ok (e :: r)
          | _ => .no)
        | _ => .no)
      | .ok false => lcL tgt tc fe sw ds
      | _ => .no)
    | none => .no
def eLc (vs : List Nat) (fi : EI) (tgt : Tgt) (tc : ET) (fe : EB) : EB := fun ss => match fi ss with
  | .ok ds => if ds.length < 10000000 then (match lcL tgt tc fe (wipeS ss vs) ds with
    | .ok r => .ok (1, .lst r)
    | _ => .no) else .no
  | .exc e => .exc e
  | .no => .no
def tcYes : ET := fun _ => .ok true
abbrev W0 : WX := fun _ _ _ _ => False
theorem lc_of {K : PySem.W.Frag} {W : WX} {vs : List Nat} {fi : EI} {g : TG} {tgt : Tgt} {tc : ET} {fe : EB} (tw : TgW K g tgt vs) (σ : L2.St) (H : Hp) (Q : VK) (hq : tM K W (eLc vs fi tgt tc fe) σ H Q) :
    tLc (tI K W fi) g (tT K W0 tc) (tB K W0 fe) vs σ H Q := by
  obtain ⟨B, ss, fps, pi, k⟩ := hq
  refine ⟨B, ss, fps, pi, ?_⟩
  unfold eLc at k
  cases hfi : fi ss with
  | exc e => rw [hfi] at k; exact k
  | no => rw [hfi] at k; exact k
  | ok ds =>
    simp only [hfi] at k
    by_cases hz : ds.length < 10000000
    · rw [if_pos hz] at k
      intro B1 H1 J s1 wk Da hDa
      -- what is left to do from the items ds' with acc made
      have fin : ∀ (all : List D) (B' H' : Hp) (acc : List V), Stp B1 H1 B' H' → B' Da = none → H' Da = some (.lst acc) → Reps K B' all acc → lcL tgt tc fe (wipeS ss vs) ds = .ok all → Q (.ref Da) H' := by
        intro all B' H' acc st hB hH rs e
        simp only [e] at k
        refine k B' (.ref Da) H' [Da] (s1.trans st) ⟨⟨all, Da, acc, all.map fun _ => [], rfl, rfl, hH, by rw [flat_nils], all_of_reps rs⟩, List.nodup_cons.mpr ⟨(fun z => nomatch z), List.nodup_nil⟩, fun a ha => ?_⟩
        rw [List.mem_singleton] at ha
        subst ha
        exact ⟨hB, s1.hh.back hDa⟩
      have some_ok : ∃ all, lcL tgt tc fe (wipeS ss vs) ds = .ok all := by
        cases e : lcL tgt tc fe (wipeS ss vs) ds with
        | ok all => exact ⟨all, rfl⟩
        | exc x => simp only [e] at k
        | no => simp only [e] at k
      obtain ⟨all, hall⟩ := some_ok
      refine ⟨fun i m H' => m = ds.length - i ∧ i ≤ ds.length ∧ ∃ (B' : Hp) (done : List D) (acc : List V) (rest : List D), Stp B1 H1 B' H' ∧ B' Da = none ∧ H' Da = some (.lst acc) ∧ Reps K B' done acc ∧ done.length ≤ i ∧ lcL tgt tc fe (wipeS ss vs) (ds.drop i) = .ok rest ∧ all = done ++ rest,
        ⟨ds.length, by simp, Nat.zero_le _, B1, [], [], all, ⟨Le.refl _, Le.new hDa, s1.bh.trans (Le.new hDa), fun _ z _ => z⟩, s1.bh.back hDa, upd_same, reps_nil, Nat.le_refl _, by rw [List.drop_zero]; exact hall, rfl⟩, ?_⟩
      rintro i m H' ⟨rfl, hi, B', done, acc, rest, st, hB, hH, rs, hl, hr, hd⟩
      obtain ⟨w1, w2, w3⟩ := wk i B' H' st.bb st.bh
      by_cases hlt : i < ds.length
      · refine .inr ⟨w1 hlt, fun H2 => ∃ (B' : Hp) (done : List D) (acc : List V) (rest : List D), Stp B1 H1 B' H2 ∧ B' Da = none ∧ H2 Da = some (.lst acc) ∧ Reps K B' done acc ∧ done.length ≤ i + 1 ∧ lcL tgt tc fe (wipeS ss vs) (ds.drop (i + 1)) = .ok rest ∧ all = done ++ rest,
          fun H2 q => ⟨ds.length - (i + 1), by omega, rfl, hlt, q⟩, fun x H2 hy => ?_⟩
        obtain ⟨B2, st2, rx⟩ := w3 x H2 ds[i] (List.getElem?_eq_getElem hlt) hy
        have hdr : ds.drop i = ds[i] :: ds.drop (i + 1) := List.drop_eq_getElem_cons hlt
        rw [hdr] at hr
        unfold lcL at hr
        have keepB : ∀ {Bx Hx : Hp}, Stp B' H' Bx Hx → Bx Da = none ∧ Hx Da = some (.lst acc) := fun s => ⟨s.dj Da hB (by rw [hH]; exact fun z => nomatch z), s.hh _ _ hH⟩
        cases ht1 : tgt ds[i] (wipeS ss vs) with
        | none => simp only [ht1] at hr; cases hr
        | some s1' =>
          simp only [ht1] at hr
          have pi2 : Pi K B2 (wipe σ vs) H2 (wipeS ss vs) (wipeF fps vs) := ((pi.step s1).wipe vs).step (st.trans st2)
          refine tw B2 σ H2 _ _ ds[i] x s1' _ pi2 rx ht1 fun σ1 fps1 hw pi3 => ⟨hw, B2, s1', fps1, pi3, ?_⟩
          cases htc : tc s1' with
          | exc e => simp only [htc] at hr; cases hr
          | no => simp only [htc] at hr; cases hr
          | ok b =>
            simp only [htc] at hr
            intro B3 H3 st3
            cases b with
            | false =>
              obtain ⟨q1, q2⟩ := keepB (st2.trans st3)
              rw [(if_neg Bool.false_ne_true)]
              exact ⟨B3, done, acc, rest, st.trans (st2.trans st3), q1, q2, Reps.mono (st2.trans st3).bb _ _ rs, by omega, hr, hd⟩
            | true =>
              rw [if_pos rfl]
              refine ⟨B3, s1', fps1, pi3.step st3, ?_⟩
              cases hfe : fe s1' with
              | exc e => simp only [hfe] at hr; cases hr
              | no => simp only [hfe] at hr; cases hr
              | ok r =>
                obtain ⟨n, e⟩ := r
                simp only [hfe] at hr
                cases n with
                | succ n => simp only [] at hr; cases hr
                | zero =>
                  simp only [] at hr
                  intro B4 y H4 st4 bw
                  have st24 := (st2.trans st3).trans st4
                  obtain ⟨q1, q2⟩ := keepB st24
                  cases hrr : lcL tgt tc fe (wipeS ss vs) (ds.drop (i + 1)) with
                  | exc e => simp only [hrr] at hr; cases hr
                  | no => simp only [hrr] at hr; cases hr
                  | ok rest' =>
                    simp only [hrr] at hr
                    cases hr
                    have hst := st.trans st24
                    refine ⟨acc, q2, by rw [← rs.length]; exact size_lt (by omega), B4, done ++ [e], acc ++ [y], rest', ⟨hst.bb, Le.mut hst.hh hDa, Le.mut hst.bh q1, hst.dj⟩, q1, upd_same, (Reps.mono st24.bb _ _ rs).append (reps_cons bw.rep reps_nil), by rw [List.length_append]; simp; omega, rfl, by rw [hd, List.append_assoc]; rfl⟩
      · have e : i = ds.length := by omega
        rw [List.drop_eq_nil_of_le (Nat.le_of_eq e.symm)] at hr
        cases hr
        refine .inl ⟨w2 (Nat.le_of_eq e.symm), fin done B' H' acc st hB hH rs ?_⟩
        rw [hall, hd, List.append_nil]
    · rw [if_neg hz] at k; exact k.elim
section
variable {X : Cx} {W : WX} {elt tg iter : Expr} {ifs : List Expr} {scope : Scope} {own : List (Str × Nat)} {pos spos py : Pos} {fi : EI} {g : TG} {tgt : Tgt} {tc : ET} {fe : EB}
theorem pts_w {X : Cx} {ifs : List Expr} {t u : TT} (h : PTs X ifs t) (k : ∀ σ H Q, u σ H Q → t σ H Q) : PTs X ifs u := ⟨fun pins s σ H Q I q => h.run pins s σ H Q I (k σ H Q q)⟩
theorem c_nil {W : WX} : PTs X [] (tT X.K W tcYes) := by
  refine pts_w pts_nil fun σ H Q hq => ?_
  obtain ⟨B, ss, fps, pi, k⟩ := hq
  exact k B H (.refl pi.bh)
theorem c_one {W : WX} {c : Expr} (h : PT X c (tT X.K W tc)) : PTs X [c] (tT X.K W tc) := pts_one h
theorem m_lc (hc : X.calm = true) (hN : X.N.Nodup) (hi : PI X tg iter (tI X.K W fi)) (ok : BlkOk X.N X.env.scope scope own) (tw : TgW X.K g tgt (own.map (·.2)))
    (hg : ∀ (s : Shared) (H : Hp) (C : Addr) (cl : List (Str × Addr)) (fp : List Addr), PG (X.blk s H scope (compEnvC scope cl C X.env) fp) tg g) (ht : ∀ (s : Shared) (H : Hp) (C : Addr) (cl : List (Str × Addr)) (fp : List Addr), PTs (X.blk s H scope (compEnvC scope cl C X.env) fp) ifs (tT X.K W0 tc))
    (he : ∀ (s : Shared) (H : Hp) (C : Addr) (cl : List (Str × Addr)) (fp : List Addr), PE (X.blk s H scope (compEnvC scope cl C X.env) fp) elt (tB X.K W0 fe)) (hs : ∀ x, foldedSetIterable iter X.env x = pure x := by intro _; rfl) :
    PE X (.ListComp elt [⟨tg, iter, ifs, 0⟩] scope pos) (tM X.K W (eLc (own.map (·.2)) fi tgt tc fe)) :=
  pe_w (pe_lc hc hN hi ok hg ht he hs) fun σ H Q hq => lc_of tw σ H Q hq
theorem s_setLc {i : Nat} {y : Str} (hc : X.calm = true) (hN : X.N.Nodup) (hy : X.N[i]? = some y) (hyl : X.env.scope.names.lookup y = some .local)
    (hsw : swapsWith (.ListComp elt [⟨tg, iter, ifs, 0⟩] scope pos) (some (.Name y py)) spos.line X.env = pure true) (hi : PI X tg iter (tI X.K W fi)) (ok : BlkOk X.N X.env.scope scope own) (tw : TgW X.K g tgt (own.map (·.2)))
    (hg : ∀ (s : Shared) (H : Hp) (C : Addr) (cl : List (Str × Addr)) (fp : List Addr), PG (X.blk s H scope (compEnvC scope cl C X.env) fp) tg g) (ht : ∀ (s : Shared) (H : Hp) (C : Addr) (cl : List (Str × Addr)) (fp : List Addr), PTs (X.blk s H scope (compEnvC scope cl C X.env) fp) ifs (tT X.K W0 tc))
    (he : ∀ (s : Shared) (H : Hp) (C : Addr) (cl : List (Str × Addr)) (fp : List Addr), PE (X.blk s H scope (compEnvC scope cl C X.env) fp) elt (tB X.K W0 fe)) (hs : ∀ x, foldedSetIterable iter X.env x = pure x := by intro _; rfl) :
    PS X (.Assign [.Name y py] (.ListComp elt [⟨tg, iter, ifs, 0⟩] scope pos) spos) (tS X.K W (sAsg i (eLc (own.map (·.2)) fi tgt tc fe))) := by
  refine ps_w (ps_setLc hc hN hy hyl hsw hi ok hg ht he hs) fun E σ H hq => ?_
  have q := asg_of hq
  exact lc_of tw σ H _ q
end
end Mv

namespace Mv
open PySem L2

/-! ### x += n -/
section
variable {X : Cx} {W : WX} {e a b : Expr} {es : List Expr} {pos : Pos} {f f1 f2 fi : EB} {g1 : EA}
theorem s_aug {i : Nat} {x : Str} {op : Operator} {g : Int → Int → Int} {pos' : Pos} (hN : X.N.Nodup) (hi : X.N[i]? = some x) (hx : Loc X.env.scope x) (he : PE X e (tB X.K W f)) (ho : PIp X op (ipI g)) (hf : X.fn x = true ∨ X.env.scope.names.lookup x = some .local := by first | exact .inl rfl | exact .inr rfl | assumption) :
    PS X (.AugAssign (.Name x pos') op e pos) (tS X.K W (sAug i g f)) := by
  refine ps_w (ps_aug hN hi hx he ho hf) fun E σ H hq => ?_
  obtain ⟨B0, H0, B, ss, fps, si, k⟩ := tS_get hq
  unfold sAug at k
  split at k
  · rename_i n hs
    obtain ⟨v, h1, h2⟩ := si.pi.get hs
    have ev := h2.rep
    rw [Rep] at ev
    subst ev
    refine ⟨.int n, h1, B, ss, fps, si.pi, ?_⟩
    cases hf : f ss with
    | ok r =>
      obtain ⟨m, d⟩ := r
      simp only [hf] at k
      cases d <;> first | exact k.elim | skip
      rename_i j
      simp only [] at k
      intro B1 w H1 s1 bw
      have ew := bw.flat (B' := B1) rfl
      rw [Rep] at ew
      subst ew
      exact ⟨n, j, rfl, rfl, k B1 _ H1 _ ((si.step s1).set0 rep_int i)⟩
    | exc e => simp only [hf] at k; exact fun B' cls dd H' st ex => k B' σ H' fps cls dd (si.step st) ex
    | no => simp only [hf] at k; exact k.elim
  · exact k.elim

/-! ### list + list, list * int, list(..) -/
end
def eCat (f1 f2 : EB) : EB := fun ss => match f1 ss with
  | .ok (n, .lst xs) => (match f2 ss with
    | .ok (m, .lst ys) => if n ≤ 1 ∧ m ≤ 1 ∧ xs.length + ys.length ≤ 10000000 then .ok (1, .lst (xs ++ ys)) else .no
    | .ok (_, _) => .no
    | .exc e => .exc e
    | .no => .no)
  | .ok (_, _) => .no
  | .exc e => .exc e
  | .no => .no
def eRep (f1 f2 : EB) : EB := fun ss => match f1 ss with
  | .ok (n, .lst xs) => (match f2 ss with
    | .ok (_, .int k) => if n ≤ 1 ∧ smallI k = true ∧ xs.length * k.toNat ≤ 10000000 then .ok (1, .lst (List.replicate k.toNat xs).flatten) else .no
    | .ok (_, _) => .no
    | .exc e => .exc e
    | .no => .no)
  | .ok (_, _) => .no
  | .exc e => .exc e
  | .no => .no
section
variable {X : Cx} {W : WX} {e a b : Expr} {es : List Expr} {pos p : Pos} {f f1 f2 fi : EB} {g1 : EA}
theorem m_cat (ha : PE X a (tB X.K W f1)) (hb : PE X b (tB X.K W f2)) : PE X (.BinOp a .Add b pos) (tM X.K W (eCat f1 f2)) := by
  refine pe_w (pe_op op_cat ha hb) fun σ H Q hq => ?_
  obtain ⟨B, ss, fps, pi, k⟩ := hq
  refine ⟨B, ss, fps, pi, ?_⟩
  unfold eCat at k
  cases h1 : f1 ss with
  | ok r =>
    obtain ⟨n, d⟩ := r
    simp only [h1] at k
    cases d <;> first | exact k.elim | skip
    rename_i xs
    simp only [] at k
    intro B1 v H1 s1 bw
    refine ⟨B1, ss, fps, pi.step s1, ?_⟩
    cases h2 : f2 ss with
    | ok r =>
      obtain ⟨m, d⟩ := r
      simp only [h2] at k
      cases d <;> first | exact k.elim | skip
      rename_i ys
      simp only [] at k
      by_cases hc : n ≤ 1 ∧ m ≤ 1 ∧ xs.length + ys.length ≤ 10000000
      · rw [if_pos hc] at k
        intro B2 w H2 s2 bw2
        obtain ⟨p, us, rfl, hp, rs⟩ := (bw.le s2.bb s2.hh).items s2.bh hc.1
        obtain ⟨q, ws, rfl, hq, rs2⟩ := bw2.items s2.bh hc.2.1
        refine ⟨p, q, us, ws, rfl, rfl, hp, hq, by rw [← rs.length, ← rs2.length]; exact size_ok hc.2.2, fun l hl => ?_⟩
        obtain ⟨q1, q2⟩ := new_list (s1.trans s2) (rs.append rs2) hl
        exact k _ _ _ _ q1 q2
      · rw [if_neg hc] at k; exact k.elim
    | exc e => simp only [h2] at k; exact fun B' cls dd H' s ex => k B' cls dd H' (s1.trans s) ex
    | no => simp only [h2] at k
  | exc e => simp only [h1] at k; exact k
  | no => simp only [h1] at k
theorem m_rep (ha : PE X a (tB X.K W f1)) (hb : PE X b (tB X.K W f2)) : PE X (.BinOp a .Mult b pos) (tM X.K W (eRep f1 f2)) := by
  refine pe_w (pe_op op_rep ha hb) fun σ H Q hq => ?_
  obtain ⟨B, ss, fps, pi, k⟩ := hq
  refine ⟨B, ss, fps, pi, ?_⟩
  unfold eRep at k
  cases h1 : f1 ss with
  | ok r =>
    obtain ⟨n, d⟩ := r
    simp only [h1] at k
    cases d <;> first | exact k.elim | skip
    rename_i xs
    simp only [] at k
    intro B1 v H1 s1 bw
    refine ⟨B1, ss, fps, pi.step s1, ?_⟩
    cases h2 : f2 ss with
    | ok r =>
      obtain ⟨m, d⟩ := r
      simp only [h2] at k
      cases d <;> first | exact k.elim | skip
      rename_i j
      simp only [] at k
      by_cases hc : n ≤ 1 ∧ smallI j = true ∧ xs.length * j.toNat ≤ 10000000
      · rw [if_pos hc] at k
        intro B2 w H2 s2 bw2
        obtain ⟨p, us, rfl, hp, rs⟩ := (bw.le s2.bb s2.hh).items s2.bh hc.1
        have ew := bw2.flat (B' := B2) rfl
        rw [Rep] at ew
        subst ew
        obtain ⟨h3, h4⟩ := smallI_of hc.2.1
        refine ⟨p, j, us, rfl, rfl, hp, by omega, by omega, by rw [← rs.length]; exact size_ok hc.2.2, fun l hl => ?_⟩
        obtain ⟨q1, q2⟩ := new_list (s1.trans s2) (rs.rep j.toNat) hl
        exact k _ _ _ _ q1 q2
      · rw [if_neg hc] at k; exact k.elim
    | exc e => simp only [h2] at k; exact fun B' cls dd H' s ex => k B' cls dd H' (s1.trans s) ex
    | no => simp only [h2] at k
  | exc e => simp only [h1] at k; exact k
  | no => simp only [h1] at k
end
/-- list(x): a copy -/
def eList (f : EB) : EB := fun ss => match f ss with
  | .ok (n, .lst xs) => if n ≤ 1 then .ok (1, .lst xs) else .no
  | .ok (0, .tup xs) => .ok (1, .lst xs)
  | .ok (_, _) => .no
  | .exc e => .exc e
  | .no => .no
section
variable {X : Cx} {W : WX} {e a b : Expr} {es : List Expr} {x : Str} {pos p : Pos} {f f1 f2 fi : EB} {g1 : EA}
theorem tup_items {K : PySem.W.Frag} {B H : Hp} {n : Nat} {ds : List D} {v : V} (bh : Le B H) (h : Bw K B H n (.tup ds) v) : ∃ p xs, v = .ref p ∧ B p = some (.tup xs) ∧ Reps K B ds xs := by
  obtain ⟨fp, ow⟩ := h
  cases n with
  | succ n => obtain ⟨_, _, _, _, z, _⟩ := ow; cases z
  | zero =>
    obtain ⟨_, r⟩ := ow
    rw [Rep] at r
    exact r
theorem m_list (hgl : Gl X "list") (hm : X.mg "list" = none) (ha : PE X e (tB X.K W f)) (hs : starEach [e] X.env = (false, eval e X.env) :: starEach [] X.env := by rfl) (hpl : (backTo pos (starEach [] X.env)).any (·.1) = false := by rfl) :
    PE X (.Call (.Name "list" p) [e] [] pos) (tM X.K W (eList f)) := by
  refine pe_w (pe_callTy call_list_of hgl hm (by decide +kernel) (pa_cons ha pa_nil hs) (by decide) (by decide) hs hpl) fun σ H Q hq => ?_
  obtain ⟨B, ss, fps, pi, k⟩ := hq
  refine ⟨B, ss, fps, pi, ?_⟩
  unfold eList at k
  cases h1 : f ss with
  | ok r =>
    obtain ⟨n, d⟩ := r
    simp only [h1] at k
    intro B1 v H1 s1 bw
    by_cases hl : ∃ xs, d = .lst xs
    · obtain ⟨xs, rfl⟩ := hl
      by_cases hn : n ≤ 1
      · have k' : ∀ B' v H' fp, Stp B H B' H' → New X.K H B' H' 1 (.lst xs) v fp → Q v H' := by simpa only [hn, if_true] using k
        obtain ⟨q, us, rfl, hq, rs⟩ := bw.items s1.bh hn
        refine ⟨q, us, rfl, .inl (SqL.of hq), fun l hl => ?_⟩
        obtain ⟨q1, q2⟩ := new_list s1 rs hl
        exact k' _ _ _ _ q1 q2
      · exfalso; simp [hn] at k
    · by_cases ht : ∃ xs, n = 0 ∧ d = .tup xs
      · obtain ⟨xs, rfl, rfl⟩ := ht
        have k' : ∀ B' v H' fp, Stp B H B' H' → New X.K H B' H' 1 (.lst xs) v fp → Q v H' := k
        obtain ⟨q, us, rfl, hq, rs⟩ := tup_items s1.bh bw
        refine ⟨q, us, rfl, .inr (SqT.of (s1.bh _ _ hq)), fun l hl => ?_⟩
        obtain ⟨q1, q2⟩ := new_list s1 rs hl
        exact k' _ _ _ _ q1 q2
      · exfalso
        cases n <;> cases d <;> first | exact k | exact hl ⟨_, rfl⟩ | exact ht ⟨_, rfl, rfl⟩
  | exc e => simp only [h1] at k; exact k
  | no => simp only [h1] at k

/-! ### built-ins with flat answers -/
end
def gLen : List D → Option D
  | [.lst xs] => some (.int xs.length)
  | [.tup xs] => some (.int xs.length)
  | [.rdl xs] => some (.int xs.length)
  | [.str x] => if x.length ≤ sizeLine then some (.int x.length) else none
  | _ => none
def gAbs : List D → Option D
  | [.int i] => some (.int (if i < 0 then -i else i))
  | _ => none
def gToInt : List D → Option D
  | [.int i] => some (.int i)
  | _ => none
def gMax2 : List D → Option D
  | [.int i, .int j] => some (.int (if j > i then j else i))
  | _ => none
def gMin2 : List D → Option D
  | [.int i, .int j] => some (.int (if j < i then j else i))
  | _ => none
section
variable {X : Cx} {K : PySem.W.Frag}
theorem ok_len : ClOk X.K (fun xs H Q => ∃ x n, xs = [x] ∧ LenV X.K x H n ∧ Q (.int n) H) gLen := by
  intro H ds d vs Q rs e k
  match ds, rs, e with
  | [d0], rs, e =>
    rw [Reps] at rs
    obtain ⟨v, us, rfl, r, rs⟩ := rs
    rw [Reps] at rs
    subst rs
    cases d0 <;> first | (cases e; done) | skip
    case str x =>
      unfold gLen at e
      by_cases hz : x.length ≤ sizeLine
      · simp only [hz, if_true] at e
        cases e
        rw [Rep] at r
        subst r
        exact ⟨_, _, rfl, ⟨hz, rfl⟩, k _ fun _ => rep_int⟩
      · simp [hz] at e
    case lst xs =>
      cases e
      rw [Rep] at r
      obtain ⟨p, us, rfl, hp, rs⟩ := r
      exact ⟨_, xs.length, rfl, .inl ⟨us, SqL.of hp, rs.length⟩, k _ fun _ => rep_int⟩
    case tup xs =>
      cases e
      rw [Rep] at r
      obtain ⟨p, us, rfl, hp, rs⟩ := r
      exact ⟨_, xs.length, rfl, .inr ⟨us, SqT.of hp, rs.length⟩, k _ fun _ => rep_int⟩
    case rdl xs =>
      cases e
      rw [Rep] at r
      obtain ⟨p, us, rfl, hp, rs⟩ := r
      exact ⟨_, xs.length, rfl, .inl ⟨us, hp, rs.length⟩, k _ fun _ => rep_int⟩
  | [], rs, e => cases e
  | d0 :: d1 :: ds, rs, e => cases d0 <;> cases e
theorem ok_abs : ClOk X.K (fun xs H Q => ∃ i, xs = [.int i] ∧ Q (.int (if i < 0 then -i else i)) H) gAbs := by
  intro H ds d vs Q rs e k
  unfold gAbs at e
  split at e
  · rename_i i
    rw [reps1 rs]
    cases e
    exact ⟨i, rfl, k _ fun _ => rep_int⟩
  · cases e
theorem ok_toInt : ClOk X.K (fun xs H Q => (∃ i, xs = [.int i] ∧ Q (.int i) H) ∨ ∃ k, xs = [.bl k] ∧ Q (.int (if k then 1 else 0)) H) gToInt := by
  intro H ds d vs Q rs e k
  unfold gToInt at e
  split at e
  · rename_i i
    rw [reps1 rs]
    cases e
    exact .inl ⟨i, rfl, k _ fun _ => rep_int⟩
  · cases e
theorem ok_max2 : ClOk X.K (fun xs H Q => ∃ i j, xs = [.int i, .int j] ∧ Q (.int (if j > i then j else i)) H) gMax2 := by
  intro H ds d vs Q rs e k
  unfold gMax2 at e
  split at e
  · rename_i i j
    rw [reps2 rs]
    cases e
    exact ⟨i, j, rfl, k _ fun _ => rep_int⟩
  · cases e
theorem ok_min2 : ClOk X.K (fun xs H Q => ∃ i j, xs = [.int i, .int j] ∧ Q (.int (if j < i then j else i)) H) gMin2 := by
  intro H ds d vs Q rs e k
  unfold gMin2 at e
  split at e
  · rename_i i j
    rw [reps2 rs]
    cases e
    exact ⟨i, j, rfl, k _ fun _ => rep_int⟩
  · cases e
end
section
variable {X : Cx} {W : WX} {e a b : Expr} {es : List Expr} {pos p : Pos} {g1 : EA}
theorem b_len (hgl : Gl X "len") (hm : X.mg "len" = none) (ha : PA X [e] (tAh X.K W g1)) (he : starEach [e] X.env = (false, eval e X.env) :: starEach [] X.env := by rfl) (hpl : (backTo pos (starEach [] X.env)).any (·.1) = false := by rfl) :
    PE X (.Call (.Name "len" p) [e] [] pos) (tB X.K W (eCall gLen g1)) := b_callB call_len ok_len hgl hm PySem.boot_len ha (by decide) (by decide) he hpl
theorem b_abs (hgl : Gl X "abs") (hm : X.mg "abs" = none) (ha : PA X [e] (tAh X.K W g1)) (he : starEach [e] X.env = (false, eval e X.env) :: starEach [] X.env := by rfl) (hpl : (backTo pos (starEach [] X.env)).any (·.1) = false := by rfl) :
    PE X (.Call (.Name "abs" p) [e] [] pos) (tB X.K W (eCall gAbs g1)) := b_callB call_abs ok_abs hgl hm (by decide +kernel) ha (by decide) (by decide) he hpl
theorem b_toInt (hgl : Gl X "int") (hm : X.mg "int" = none) (ha : PA X [e] (tAh X.K W g1)) (he : starEach [e] X.env = (false, eval e X.env) :: starEach [] X.env := by rfl) (hpl : (backTo pos (starEach [] X.env)).any (·.1) = false := by rfl) :
    PE X (.Call (.Name "int" p) [e] [] pos) (tB X.K W (eCall gToInt g1)) := b_callTy call_int1 ok_toInt hgl hm (by decide +kernel) ha (by decide) (by decide) he hpl
theorem b_max2 (hc : X.calm = true) (hgl : Gl X "max") (hm : X.mg "max" = none) (ha : PA X [a, b] (tAh X.K W g1)) (he : starEach [a, b] X.env = (false, eval a X.env) :: starEach [b] X.env := by rfl) (hpl : (backTo pos (starEach [b] X.env)).any (·.1) = false := by rfl) :
    PE X (.Call (.Name "max" p) [a, b] [] pos) (tB X.K W (eCall gMax2 g1)) := b_callB (call_max2 hc) ok_max2 hgl hm (by decide +kernel) ha (by decide) (by decide) he hpl
theorem b_min2 (hc : X.calm = true) (hgl : Gl X "min") (hm : X.mg "min" = none) (ha : PA X [a, b] (tAh X.K W g1)) (he : starEach [a, b] X.env = (false, eval a X.env) :: starEach [b] X.env := by rfl) (hpl : (backTo pos (starEach [b] X.env)).any (·.1) = false := by rfl) :
    PE X (.Call (.Name "min" p) [a, b] [] pos) (tB X.K W (eCall gMin2 g1)) := b_callB (call_min2 hc) ok_min2 hgl hm (by decide +kernel) ha (by decide) (by decide) he hpl
end

/-! ### defs -/
abbrev FM := List D → Res (Nat × D)
def spM (K : PySem.W.Frag) (m : FM) : Sp := fun vs H Q E => ∃ B ds, Le B H ∧ Reps K B ds vs ∧ match m ds with
  | .ok (n, d) => ∀ B' v H' fp, Stp B H B' H' → New K H B' H' n d v fp → Q v H'
  | .exc e => ∀ B' cls dd H', Stp B H B' H' → ExR K B' H' e cls dd → E cls dd H'
  | .no => False
/-- a def's mirror, from its body's -/
def fnM (np nn : Nat) (F : SM) : FM := fun ds => if ds.length = np then (match F (ds.map (Sl.v 0) ++ List.replicate (nn - np) .un) with
  | .nx _ => .ok (0, .non)
  | .rt n d => .ok (n, d)
  | .exc e _ => .exc e
  | _ => .no) else .no
section
variable {P : Program} {w : World} {K : PySem.W.Frag} {base : Heap} {mg : Str → Option Value}
/-- Fun.ok for a def that may raise; what it raises has no context -/
theorem okN {x qual : Str} {st : Stmt} {f : Addr} {fd : FuncData} {N ps : List Str} {k : Nat} {sp : Sp} (F : Fun K x qual st f fd) (S : FnScope N ps (defScope st)) (len : ∀ vs H Q E, sp vs H Q E → vs.length = ps.length)
    (hbody : ∀ (cdv : Value) (A : Around) (outer : List Env) (s : Shared) (H : Hp) (vs : List V) (Q : VK) (E : XK), Room k (A.deeper (PyProof.Rows.envOfC qual (defScope st) s.heap.objs.size f cdv)) → sp vs H Q E →
      ∃ t, PSs (cxOf (L2N.CX P w) P w K mg base N qual (defScope st) f cdv A outer s H E) (defBody st) t ∧ t { nx := fun _ H' => Q .non H', rt := Q } (L2.start N vs) H) : FnOk P w K mg base (L2N.CX P w) (k + 1) f fd ps sp := by
  rcases F.ex with ⟨oc, od, kV, doc, pm, an, cdv, ct, osl, rfl, lk, hcd⟩
  exact (fn_of lk hcd S len fun A outer s H vs Q E hr hsp => hbody cdv A outer s H vs Q E hr hsp)
theorem takesN0 {X : Cx} : L2N.Takes X (fun _ _ _ _ => False) := fun _ _ x => by
  rcases x with ⟨_, _, _, _, _, _, _, _, _, _, _, _, _, _, _, _, z⟩
  exact z.elim
theorem fn_okM {x qual : Str} {st : Stmt} {f : Addr} {fd : FuncData} {N ps : List Str} {k : Nat} {F : SM} (np nn : Nat) (hnp : ps.length = np) (hnn : N.length = nn) (Fn : Fun K x qual st f fd) (S : FnScope N ps (defScope st))
    (hbody : ∀ (cdv : Value) (A : Around) (outer : List Env) (s : Shared) (H : Hp) (E : XK), Room k (A.deeper (PyProof.Rows.envOfC qual (defScope st) s.heap.objs.size f cdv)) →
      PSs (cxOf (L2N.CX P w) P w K mg base N qual (defScope st) f cdv A outer s H E) (defBody st) (tS K (fun cls d _ H => E cls d H) F)) :
    FnOk P w K mg base (L2N.CX P w) (k + 1) f fd ps (spM K (fnM np nn F)) := by
  subst hnp hnn
  refine okN Fn S (fun vs H Q E h => ?_) (fun cdv A outer s H vs Q E hr h => ⟨_, hbody cdv A outer s H E hr, ?_⟩)
  · obtain ⟨B, ds, _, rs, k⟩ := h
    unfold fnM at k
    by_cases hl : ds.length = ps.length
    · rw [← rs.length, hl]
    · rw [if_neg hl] at k; exact k.elim
  · obtain ⟨B, ds, le, rs, k⟩ := h
    unfold fnM at k
    by_cases hl : ds.length = ps.length
    · rw [if_pos hl] at k
      have hv : vs.length = ps.length := by rw [← rs.length, hl]
      have si := SI.start le rs (N.length - ps.length)
      unfold L2.start
      rw [hv]
      refine tS_mk si ?_
      cases hF : F (ds.map (Sl.v 0) ++ List.replicate (N.length - ps.length) .un) with
      | nx s' => simp only [hF] at k; exact fun B' σ' H' fps' si' => k B' .non H' [] si'.st ⟨⟨rfl, rep_non⟩, List.nodup_nil, fun a z => nomatch z⟩
      | rt n d => simp only [hF] at k; exact k
      | bk s' => simp only [hF] at k
      | ct s' => simp only [hF] at k
      | exc e s' => simp only [hF] at k; exact fun B' σ' H' fps' cls dd si' ex => k B' cls dd H' si'.st ex
      | no => simp only [hF] at k
    · rw [if_neg hl] at k; exact k.elim
end
def eFn (m : FM) (ga : EA) : EB := fun ss => match ga ss with
  | .ok ds => m ds
  | .exc e => .exc e
  | .no => .no
def flatX (e : Exo) : Bool := match e.fs with
  | none => true
  | some fs => fs.all fun p => flat p.2
theorem repF_flat {K : PySem.W.Frag} {B B' : Hp} : ∀ {fs : List (Str × D)} {gs : List (Str × V)}, (fs.all fun p => flat p.2) = true → RepF K B fs gs → RepF K B' fs gs
  | [], gs, _, h => by rw [RepF] at *; exact h
  | (n, d) :: fs, gs, hf, h => by
    rw [List.all_cons,
      Bool.and_eq_true] at hf
    rw [RepF] at *
    obtain ⟨v, vs, e, h1, h2⟩ := h
    exact ⟨v, vs, e, h1.flat hf.1, repF_flat hf.2 h2⟩
theorem exR_flat {K : PySem.W.Frag} {B B' H : Hp} {e : Exo} {cls : Value} {dd : Option Addr} (hf : flatX e = true) (h : ExR K B H e cls dd) : ExR K B' H e cls dd := by
  unfold ExR at *
  unfold flatX at hf
  obtain ⟨h1, h2⟩ := h
  refine ⟨h1, ?_⟩
  cases hfs : e.fs with
  | none => rw [hfs] at h2; exact h2
  | some fs =>
    rw [hfs] at h2 hf
    obtain ⟨d, gs, q1, q2, q3⟩ := h2
    exact ⟨d, gs, q1, q2, repF_flat hf q3⟩
def eFnF (m : FM) (ga : EA) : EB := fun ss => match ga ss with
  | .ok ds => (match m ds with
    | .ok (_, d) => if flat d then .ok (0, d) else .no
    | .exc e => if flatX e then .exc e else .no
    | .no => .no)
  | .exc e => .exc e
  | .no => .no
section
variable {X : Cx} {W : WX} {e a b : Expr} {es : List Expr} {pos p : Pos} {g1 : EA} {m : FM} {k : Nat} {f : Addr} {fd : FuncData} {ps : List Str} {x : Str}
/-- f(..): what comes back is new -/
theorem m_call (F : FnOk X.prog X.w X.K X.mg X.base (L2N.CX X.prog X.w) k f fd ps (spM X.K m)) (tk : L2N.Takes X W) (hr : Room k X.A) (hg : Gl X x) (hm : X.mg x = some (.ref f)) (hk : PySem.W.keepIn X.K (.ref f) = true) (hb : Binds X.K fd ps [])
    (ha : PA X (e :: es) (tA X.K W g1)) (hdb : (x == ("__debug__" : Str)) = false := by decide) (he : starEach (e :: es) X.env = (false, eval e X.env) :: starEach es X.env := by rfl) (hpl : (backTo pos (starEach es X.env)).any (·.1) = false := by rfl) :
    PE X (.Call (.Name x p) (e :: es) [] pos) (tM X.K W (eFn m g1)) := by
  refine pe_w (pe_callS F hr hg hm hk hb (fun σ => L2N.passAt tk σ) ha hdb he hpl) fun σ H Q hq => ?_
  obtain ⟨B, ss, fps, pi, k⟩ := hq
  refine ⟨B, ss, fps, pi, ?_⟩
  unfold eFn at k
  cases h1 : g1 ss with
  | ok ds =>
    simp only [h1] at k
    intro B1 vs H1 s1 rs
    refine ⟨B1, ds, s1.bh, rs, ?_⟩
    cases h2 : m ds with
    | ok r =>
      obtain ⟨n, d⟩ := r
      simp only [h2] at k
      exact fun B' v H' fp st nw => k B' v H' fp (s1.trans st) ⟨nw.ow, nw.nd, fun a ha => ⟨(nw.fr a ha).1, s1.hh.back (nw.fr a ha).2⟩⟩
    | exc e => simp only [h2] at k; exact fun B' cls dd H' st ex => k B' cls dd H' (s1.trans st) ex
    | no => simp only [h2] at k
  | exc e => simp only [h1] at k; exact k
  | no => simp only [h1] at k
/-- f(..): a flat answer; the arguments borrowed -/
theorem b_callF (F : FnOk X.prog X.w X.K X.mg X.base (L2N.CX X.prog X.w) k f fd ps (spM X.K m)) (tk : L2N.Takes X W) (hr : Room k X.A) (hg : Gl X x) (hm : X.mg x = some (.ref f)) (hk : PySem.W.keepIn X.K (.ref f) = true) (hb : Binds X.K fd ps [])
    (ha : PA X (e :: es) (tAh X.K W g1)) (hdb : (x == ("__debug__" : Str)) = false := by decide) (he : starEach (e :: es) X.env = (false, eval e X.env) :: starEach es X.env := by rfl) (hpl : (backTo pos (starEach es X.env)).any (·.1) = false := by rfl) :
    PE X (.Call (.Name x p) (e :: es) [] pos) (tB X.K W (eFnF m g1)) := by
  refine pe_w (pe_callS F hr hg hm hk hb (fun σ => L2N.passAt tk σ) ha hdb he hpl) fun σ H Q hq => ?_
  obtain ⟨B, ss, fps, pi, k⟩ := hq
  refine ⟨B, ss, fps, pi, ?_⟩
  unfold eFnF at k
  cases h1 : g1 ss with
  | ok ds =>
    simp only [h1] at k
    intro B1 vs H1 s1 rs
    refine ⟨H1, ds, Le.refl _, rs, ?_⟩
    cases h2 : m ds with
    | ok r =>
      obtain ⟨n, d⟩ := r
      simp only [h2] at k
      by_cases hf : flat d = true
      · rw [if_pos hf] at k
        intro B' v H' fp st nw
        have s2 : Stp B1 H1 B1 H' := ⟨Le.refl _, st.hh, s1.bh.trans st.hh, fun _ z _ => z⟩
        exact k B1 v H' (s1.trans s2) (bw0 (nw.ow.bw.flat hf))
      · rw [if_neg hf] at k; exact k.elim
    | exc e =>
      simp only [h2] at k
      by_cases hf : flatX e = true
      · rw [if_pos hf] at k
        intro B' cls dd H' st ex
        have s2 : Stp B1 H1 B1 H' := ⟨Le.refl _, st.hh, s1.bh.trans st.hh, fun _ z _ => z⟩
        exact k B1 cls dd H' (s1.trans s2) (exR_flat hf ex)
      · rw [if_neg hf] at k; exact k.elim
    | no => simp only [h2] at k
  | exc e => simp only [h1] at k; exact k
  | no => simp only [h1] at k
end
end Mv

namespace Mv
open PySem L2

section
variable {P : Program} {w : World} {K : PySem.W.Frag} {mg : Str → Option Value} {base : Heap} {N : List Str} {qual : Str} {scope : Scope} {f : Addr} {cdv : Value} {A : Around} {outer : List Env} {s : Shared} {H : Hp} {E : XK}
abbrev cxN (P : Program) (w : World) (K : PySem.W.Frag) (mg : Str → Option Value) (base : Heap) (N : List Str) (qual : Str) (scope : Scope) (f : Addr) (cdv : Value) (A : Around) (outer : List Env) (s : Shared) (H : Hp) (E : XK) : Cx := cxOf (L2N.CX P w) P w K mg base N qual scope f cdv A outer s H E
theorem passes_cx : PassesOwn (model (cxN P w K mg base N qual scope f cdv A outer s H E).prog (cxN P w K mg base N qual scope f cdv A outer s H E).w) (cxN P w K mg base N qual scope f cdv A outer s H E).A (cxN P w K mg base N qual scope f cdv A outer s H E).env (cxN P w K mg base N qual scope f cdv A outer s H E).xe := passes_of rfl
theorem takes_cx : L2N.Takes (cxN P w K mg base N qual scope f cdv A outer s H E) (fun cls d _ H => E cls d H) := L2N.takes_of rfl rfl rfl rfl
theorem units_cx {k : Nat} (hr : Room k (A.deeper (PyProof.Rows.envOfC qual scope s.heap.objs.size f cdv))) : (cxN P w K mg base N qual scope f cdv A outer s H E).A.units + 64 < cLine := hr.units
end

/-! ### isinstance of a built-in type -/
def kindOf : D → Option String
  | .non => some "NoneType"
  | .bl _ => some "bool"
  | .int _ => some "int"
  | .str _ => some "str"
  | .lst _ => some "list"
  | .tup _ => some "tuple"
  | _ => none
def isKind (k T : String) : Bool := k == T || (k == "bool" && T == "int")
def tyNames : List String := ["int", "bool", "list", "tuple", "str"]
def gIsi (T : String) (d : D) : Option D := match kindOf d with
  | some k => if T ∈ tyNames then some (.bl (isKind k T)) else none
  | none => none
theorem kit_kind {K : PySem.W.Frag} {k T : String} (hk : k ∈ ["NoneType", "bool", "int", "str", "list", "tuple"]) (hT : T ∈ tyNames) : PySem.W.kitOne K (.type k) (.type T) = some (isKind k T) := by
  unfold tyNames at hT
  simp only [List.mem_cons, List.not_mem_nil, or_false] at hk hT
  rcases hk with rfl | rfl | rfl | rfl | rfl | rfl <;> rcases hT with rfl | rfl | rfl | rfl | rfl <;> exact kit_ty (by decide +kernel)
theorem kind_ty {K : PySem.W.Frag} {H : Hp} {d : D} {v : V} {k : String} (r : Rep K H d v) (h : kindOf d = some k) : k ∈ ["NoneType", "bool", "int", "str", "list", "tuple"] ∧ TyX K H v (.type k) := by
  cases d <;> first | (cases h; done) | skip
  all_goals
    cases h
    rw [Rep] at r
    refine ⟨by decide, ?_⟩
    first
      | (subst r; exact .base .non)
      | (subst r; exact .base (.bl _))
      | (subst r; exact .base (.int _))
      | (subst r; exact .base (.str _))
      | (obtain ⟨a, xs, rfl, ha, _⟩ := r; exact .base (.lst ha))
      | (obtain ⟨a, xs, rfl, ha, _⟩ := r; exact .base (.tup ha))
def gNeg : D → Option D
  | .int i => some (.int (-i))
  | _ => none
section
variable {X : Cx} {W : WX} {e a b c : Expr} {es : List Expr} {pos p q : Pos} {f f1 f2 f3 : EB} {g1 : EA}
theorem b_isi (T : String) {x : Str} (hg : Gl X "isinstance") (hm : X.mg "isinstance" = none) (hg2 : Gl X x) (hm2 : X.mg x = none) (hv : bootBuiltins x = some (.type T)) (ha : PE X e (tB X.K W f)) (hn : x ≠ "__name__" := by decide) (hdb : (x == ("__debug__" : Str)) = false := by decide)
    (he : starEach [e, .Name x q] X.env = (false, eval e X.env) :: starEach [.Name x q] X.env := by rfl) (he2 : starEach [.Name x q] X.env = (false, eval (.Name x q) X.env) :: starEach [] X.env := by rfl) (hpl : (backTo pos (starEach [.Name x q] X.env)).any (·.1) = false := by rfl) :
    PE X (.Call (.Name "isinstance" p) [e, .Name x q] [] pos) (tB X.K W (eUn (gIsi T) f)) := by
  have pT : PE X (.Name x q) (tC (.ty T)) := pe_bltn (v := .ty T) hg2 hm2 hv rfl hn hdb
  refine pe_w (pe_callB call_isi hg hm (by decide +kernel) (pa_cons ha (pa_cons pT pa_nil he2) he) (by decide) (by decide) he hpl) fun σ H Q hq => ?_
  obtain ⟨B, ss, fps, pi, k⟩ := hq
  refine ⟨B, ss, fps, pi, ?_⟩
  unfold eUn at k
  cases h : f ss with
  | ok r =>
    obtain ⟨n, d⟩ := r
    simp only [h] at k
    intro B1 v H1 s1 bw
    cases hh : gIsi T d with
    | none => simp only [hh] at k
    | some d2 =>
      simp only [hh] at k
      unfold gIsi at hh
      cases hk : kindOf d with
      | none => simp only [hk] at hh; cases hh
      | some kd =>
        simp only [hk] at hh
        by_cases hT : T ∈ tyNames
        · rw [if_pos hT] at hh
          cases hh
          obtain ⟨h1, h2⟩ := kind_ty (bw.here s1.bh) hk
          exact ⟨v, .ty T, .type kd, .type T, _, rfl, .ty T, h2, kit_kind h1 hT, k B1 _ H1 s1 (bw0 rep_bl)⟩
        · rw [if_neg hT] at hh; cases hh
  | exc e => simp only [h] at k; exact k
  | no => simp only [h] at k
theorem b_neg (ha : PE X a (tB X.K W f)) : PE X (.UnaryOp .USub a pos) (tB X.K W (eUn gNeg f)) := by
  refine b_un un_neg (fun H da d x Q r e k => ?_) ha
  cases da <;> first | (cases e; done) | skip
  rename_i i
  rw [Rep] at r
  cases e
  exact ⟨i, r, k _ fun _ => rep_int⟩
end

/-! ### chains a < b < c -/
def eChn (g g' : D → D → Option D) (f1 f2 f3 : EB) : EB := fun ss => match f1 ss with
  | .ok (_, a) => (match f2 ss with
    | .ok (_, b) => (match g a b with
      | some (.bl true) => (match f3 ss with
        | .ok (_, c) => (match g' b c with
          | some d => .ok (0, d)
          | none => .no)
        | .exc e => .exc e
        | .no => .no)
      | some (.bl false) => .ok (0, .bl false)
      | _ => .no)
    | .exc e => .exc e
    | .no => .no)
  | .exc e => .exc e
  | .no => .no
section
variable {X : Cx} {W : WX} {e a b c : Expr} {es : List Expr} {pos p q : Pos} {f f1 f2 f3 : EB} {g1 : EA}
theorem chn_of {r r' : R2} {g g' : D → D → Option D} (hg : OpOk X.K r g) (hg' : OpOk X.K r' g') (σ : L2.St) (H : Hp) (Q : VK) (hq : tB X.K W (eChn g g' f1 f2 f3) σ H Q) : tChain r r' (tB X.K W f1) (tB X.K W f2) (tB X.K W f3) σ H Q := by
  refine tB_cut hq fun B ss fps pi k => ?_
  unfold eChn at k
  cases h1 : f1 ss with
  | exc e => simp only [h1] at k; exact k
  | no => simp only [h1] at k
  | ok r1 =>
    obtain ⟨n1, d1⟩ := r1
    simp only [h1] at k
    intro B1 x H1 s1 bx
    refine ⟨B1, ss, fps, pi.step s1, ?_⟩
    cases h2 : f2 ss with
    | exc e => simp only [h2] at k; exact fun B' cls dd H' s ex => k B' cls dd H' (s1.trans s) ex
    | no => simp only [h2] at k
    | ok r2 =>
      obtain ⟨n2, d2⟩ := r2
      simp only [h2] at k
      intro B2 y H2 s2 bY
      cases hh : g d1 d2 with
      | none => simp only [hh] at k
      | some d =>
        simp only [hh] at k
        refine hg H2 d1 d2 d x y _ ((bx.le s2.bb s2.hh).here s2.bh) (bY.here s2.bh) hh fun v rv => ?_
        cases d <;> first | exact k.elim | skip
        rename_i t
        have ev := rv B2
        rw [Rep] at ev
        refine ⟨t, ev, ?_⟩
        cases t with
        | false => rw [if_neg Bool.false_ne_true]; exact k B2 _ H2 (s1.trans s2) (bw0 rep_bl)
        | true =>
          rw [if_pos rfl]
          refine ⟨B2, ss, fps, (pi.step s1).step s2, ?_⟩
          cases h3 : f3 ss with
          | exc e => simp only [h3] at k; exact fun B' cls dd H' s ex => k B' cls dd H' ((s1.trans s2).trans s) ex
          | no => simp only [h3] at k
          | ok r3 =>
            obtain ⟨n3, d3⟩ := r3
            simp only [h3] at k
            intro B3 z H3 s3 bz
            cases h4 : g' d2 d3 with
            | none => simp only [h4] at k
            | some d4 =>
              simp only [h4] at k
              exact hg' H3 d2 d3 d4 y z Q ((bY.le s3.bb s3.hh).here s3.bh) (bz.here s3.bh) h4 fun v rv => k B3 v H3 ((s1.trans s2).trans s3) (bw0 (rv B3))
theorem b_chn {op op' : CmpOp} {r r' : R2} {g g' : D → D → Option D} (ho : OpR X (compareOp op) r) (hg : OpOk X.K r g) (ho' : OpR X (compareOp op') r') (hg' : OpOk X.K r' g') (ha : PE X a (tB X.K W f1)) (hb : PE X b (tB X.K W f2)) (hc : PE X c (tB X.K W f3))
    (hm : lastMarks [op, op'] [b, c] = false := by with_unfolding_all rfl) : PE X (.Compare a [op, op'] [b, c] pos) (tB X.K W (eChn g g' f1 f2 f3)) :=
  pe_w (pe_chain ho ho' ha hb hc hm) fun σ H Q hq => chn_of hg hg' σ H Q hq
theorem t_chn {op op' : CmpOp} {r r' : R2} {g g' : D → D → Option D} (ho : OpR X (compareOp op) r) (hg : OpOk X.K r g) (ho' : OpR X (compareOp op') r') (hg' : OpOk X.K r' g') (ha : PE X a (tB X.K W f1)) (hb : PE X b (tB X.K W f2)) (hc : PE X c (tB X.K W f3))
    (hm : lastMarks [op, op'] [b, c] = false := by with_unfolding_all rfl) : PT X (.Compare a [op, op'] [b, c] pos) (tT X.K W (eTest (eChn g g' f1 f2 f3))) :=
  pt_w (pt_chain ho ho' ha hb hc hm) fun σ H Q hq => chn_of hg hg' σ H _ (test_of hq)
end
end Mv

namespace Mv
open PySem L2
open Classical

/-! ### raise X() -/
def sRaise (e : Exo) : SM := fun ss => .exc e ss
section
variable {X : Cx} {W : WX} {C : Addr} {bmB : List Value} {B newId initId : String} {x : Str} {p pos pos' : Pos}
theorem pmk_own0 (F : ExcBaseFacts B newId initId bmB) (q : PySem.W.excIn X.K C bmB newId = true) (gC : X.mg x = some (.ref C)) (kC : PySem.W.keepIn X.K (.ref C) = true) (r : Raises X (.ref C)) (hg : Gl X x)
    (hdb : (x == ("__debug__" : Str)) = false := by decide) : L2N.PMk X (.Call (.Name x p) [] [] pos) (fun _ H Q => Q (.ref C) none H) := by
  intro ps2 st σ H Q it h
  refine wpAny_Call_Name_kw (ld_glob it hg gC ?_ hdb)
  refine PySem.W.callWith_K0 it.kIn kC ?_
  show wpAny _ _ (call (.ref C) []) _ _ _
  obtain ⟨bm, N, nm, qn, bs, hdct, sn, sub, ab, col, dd, k0, k1, k2, k3, k5, mN, hC, hN, hni, T⟩ := exc_obj it.kIn q
  refine wpAny_call_exc_subT F T hC hN hni (fun h' e hm => ?_) (Nat.zero_le _)
  exact L2N.mk_of it hm r h (it.hok.gone hm.new)
theorem s_raise0 (hc : X.calm = true) (tk : L2N.Takes X W) (F : ExcBaseFacts B newId initId bmB) (q : PySem.W.excIn X.K C bmB newId = true) (gC : X.mg x = some (.ref C)) (kC : PySem.W.keepIn X.K (.ref C) = true) (h1 : PySem.W.subIn X.K (.ref C) (.type "BaseException") = some true) (h2 : PySem.W.typeIn X.K (.ref C) = some (.type "type")) (hg : Gl X x)
    (hdb : (x == ("__debug__" : Str)) = false := by decide) : PS X (.Raise (some (.Call (.Name x p) [] [] pos)) none pos') (tS X.K W (sRaise ⟨C, none⟩)) := by
  refine ps_w (L2N.ps_raise hc tk (pmk_own0 F q gC kC (raises_own h1 h2) hg hdb)) fun D σ H hq => ?_
  obtain ⟨B0, H0, B, ss, fps, si, k⟩ := hq
  exact k B σ H fps (.ref C) none si ⟨rfl, rfl⟩
end

/-! ### slots -/
section
variable {K : PySem.W.Frag} {B0 H0 B B' H H' : Hp} {σ : St} {ss : En} {fps : List (List Addr)}
theorem SI.put (h : SI K B0 H0 B σ H ss fps) (i : Nat) {s : Sl} {o : Option V} (r : slotOk K B H s o []) : SI K B0 H0 B (σ.set i o) H (ss.set i s) (fps.set i []) := by
  refine ⟨⟨h.pi.bh, h.pi.al.set r i, nodup_set h.pi.nd List.nodup_nil i (fun _ _ => True.intro) fun a ha => (nomatch ha), fun a ha => ?_⟩, h.st, fun a ha => ?_⟩
  · rcases mem_set_fl ha with z | z
    · exact h.pi.fr a z
    · cases z
  · rcases mem_set_fl ha with z | z
    · exact h.fr a z
    · cases z
end

/-! ### try: .. except X as n: -/
/-- the suite's outcome, whatever the address -/
def unS (i : Nat) : SO → SO
  | .nx ss => .nx (ss.set i .un)
  | .bk ss => .bk (ss.set i .un)
  | .ct ss => .ct (ss.set i .un)
  | .rt n d => .rt n d
  | .exc _ _ => .no
  | .no => .no
noncomputable def sTry (K : PySem.W.Frag) (c : Value) (i : Nat) (Fb : SM) (Fs : Addr → Exo → SM) : SM := fun ss => match Fb ss with
  | .exc e ss' => (match PySem.W.exmOne K (.ref e.C) c with
    | some true => if h : ∃ r, ∀ a, unS i (Fs a e (ss'.set i (.v 0 (.exo a)))) = r then h.choose else .no
    | some false => .exc e ss'
    | none => .no)
  | o => o
theorem sTry_exc {K : PySem.W.Frag} {c : Value} {i : Nat} {Fb : SM} {Fs : Addr → Exo → SM} {ss ss' : En} {e : Exo} {r : SO} (h1 : Fb ss = .exc e ss') (h2 : PySem.W.exmOne K (.ref e.C) c = some true) (h3 : ∀ a, unS i (Fs a e (ss'.set i (.v 0 (.exo a)))) = r) :
    sTry K c i Fb Fs ss = r := by
  unfold sTry
  rw [h1]
  simp only [h2]
  have h : ∃ r, ∀ a, unS i (Fs a e (ss'.set i (.v 0 (.exo a)))) = r := ⟨r, h3⟩
  rw [dif_pos h]
  rw [← h.choose_spec 0, h3 0]
/-- what the object at hand is -/
structure HotO (oe : Obj) (e : Exo) : Prop where
  cls : oe.cls = .ref e.C
  dct : e.fs = none → oe.dict = none
/-- the context holds the exception e, at a -/
structure HotE (X : Cx) (a : Addr) (e : Exo) : Prop where
  pin : ∃ oe, (a, oe) ∈ X.pn ∧ L2H.Hot1 X.A (a, oe) ∧ HotO oe e
def tsX (K : PySem.W.Frag) (Fs : Addr → Exo → SM) : Addr → Value → Option Addr → TS := fun a cls d D σ H => ∃ e : Exo, cls = .ref e.C ∧ (e.fs = none → d = none) ∧ tS K (fun _ _ _ _ => False) (Fs a e) D σ H
section
variable {X : Cx} {x n : Str} {c : Value} {i : Nat} {body suite : List Stmt} {b₀ : Stmt} {np pos pos' : Pos} {W : WX} {Fb : SM} {Fs : Addr → Exo → SM}
theorem hot_suite {a : Addr} {oe : Obj} {cls : Value} {d : Option Addr} {pn : List (Addr × Obj)} {e : Exo} (hz : L2N.Zn cls d oe) (hf : ∃ vs, oe.data = .fields vs) (hc : cls = .ref e.C) (hd : e.fs = none → d = none) : HotE (X.suite a ((a, oe) :: pn)) a e := by
  obtain ⟨vs, hv⟩ := hf
  refine ⟨oe, List.mem_cons_self, ⟨rfl, vs, hv, hz.2.2 vs hv⟩, ⟨by rw [hz.1, hc], fun h => by rw [hz.2.1]; exact hd h⟩⟩
theorem s_try (hs : X.stack = X.env :: X.outer) (hf : X.env.frame = some X.env.locals) (hN : X.N.Nodup) (hi : X.N[i]? = some n) (hln : X.env.kindOf n = some .local) (hc : Names X x c) (tk : L2N.Takes X W)
    (hb : ∀ (W : WX) (pn : List (Addr × Obj)) (xe : Value → Shared → Prop), L2N.Takes (X.tr pn xe) W → PassesOwn (model X.prog X.w) X.A X.env xe → PSs (X.tr pn xe) body (tS X.K W Fb))
    (hsu : ∀ (a : Addr) (pn : List (Addr × Obj)) (e : Exo), HotE (X.suite a pn) a e → PSs (X.suite a pn) (b₀ :: suite) (tS X.K (fun _ _ _ _ => False) (Fs a e))) :
    PS X (.Try body [.ExceptHandler (some (.Name x np)) (some n) (b₀ :: suite) pos'] [] [] pos) (tS X.K W (sTry X.K c i Fb Fs)) := by
  refine ps_w (L2N.ps_try_as (ts := tsX X.K Fs) (tb := fun W => tS X.K W Fb) hs hf hN hi hln hc tk hb fun a oe cls d pn hz hfl => ⟨fun pins s σ H D I q => ?_⟩) fun D σ H hq => ?_
  · obtain ⟨e, h1, h2, h3⟩ := q
    exact (hsu a _ e (hot_suite hz hfl h1 h2)).run pins s σ H D I h3
  · obtain ⟨B0, H0, B, ss, fps, si, k⟩ := hq
    refine ⟨B0, H0, B, ss, fps, si, ?_⟩
    unfold sTry at k
    cases hF : Fb ss with
    | nx ss' => simp only [hF] at k; exact k
    | rt n d => simp only [hF] at k; exact k
    | bk ss' => simp only [hF] at k; exact k
    | ct ss' => simp only [hF] at k; exact k
    | no => simp only [hF] at k
    | exc e ss' =>
      simp only [hF] at k
      intro B1 σ1 H1 fps1 cls dd si1 ex
      obtain ⟨ec, ed⟩ := id ex
      subst ec
      cases hm : PySem.W.exmOne X.K (.ref e.C) c with
      | none => simp only [hm] at k
      | some b =>
        refine ⟨b, hm, fun hb1 a ha => ?_, fun hb1 => ?_⟩
        · subst hb1
          simp only [hm] at k
          by_cases h : ∃ r, ∀ a, unS i (Fs a e (ss'.set i (.v 0 (.exo a)))) = r
          · rw [dif_pos h] at k
            have hr := h.choose_spec a
            refine ⟨e, rfl, fun z => by rw [z] at ed; exact ed, B0, H0, B1, ss'.set i (.v 0 (.exo a)), fps1.set i [], si1.put i (s := .v 0 (.exo a)) (o := some (.ref a)) ⟨_, rfl, rfl, by rw [Rep]⟩, ?_⟩
            rw [← hr] at k
            cases hS : Fs a e (ss'.set i (.v 0 (.exo a))) with
            | nx s2 => rw [hS] at k; exact fun B' σ' H' fps' si' => k B' (σ'.set i none) H' (fps'.set i []) (si'.put i (s := .un) (o := none) rfl)
            | bk s2 => rw [hS] at k; exact fun B' σ' H' fps' si' => k B' (σ'.set i none) H' (fps'.set i []) (si'.put i (s := .un) (o := none) rfl)
            | ct s2 => rw [hS] at k; exact fun B' σ' H' fps' si' => k B' (σ'.set i none) H' (fps'.set i []) (si'.put i (s := .un) (o := none) rfl)
            | rt n d => rw [hS] at k; exact k
            | exc e2 s2 => rw [hS] at k; exact k.elim
            | no => rw [hS] at k; exact k
          · rw [dif_neg h] at k; exact k.elim
        · subst hb1
          simp only [hm] at k
          exact k B1 σ1 H1 fps1 _ dd si1 ex
end

/-! ### defs called in an except suite -/
structure FnX (P : Program) (w : World) (K : PySem.W.Frag) (mg : Str → Option Value) (base : Heap) (CX : CXT) (k : Nat) (f : Addr) (fd : FuncData) (ps : List Str) (sp : Addr × Obj → Sp) : Prop where
  len : ∀ p vs H Q E, sp p vs H Q E → vs.length = ps.length
  run : ∀ (A : Around) (outer : List Env) (s : Shared) (H : Hp) (args : Args) (us : List Value) (vs : List V) (Q : VK) (E : XK) (p : Addr × Obj), L2H.RoomH k A → L2H.Hot1 A p → L2H.PinOk outer H s p → Env0 P w K mg base A outer s H → BindsTo s fd args (ps.zip us) → Vals vs us → sp p vs H Q E →
    codeAny (model P w) A (PySem.Code.call (.ref f) args) (CR CX outer P w H s Q E) s
theorem fn_ofX {CX : CXT} {P : Program} {w : World} {K : PySem.W.Frag} {mg : Str → Option Value} {base : Heap} {k : Nat} {f : Addr} {name qual : Str} {params : Arguments} {body : List Stmt} {scope : Scope} {dV kV doc pm cdv ct oc : Value} {an od : Option Addr}
    {osl : Array (Option Value)} {N ps : List Str} {sp : Addr × Obj → Sp} (lk : K.lookup f = some ⟨oc, od, .func (PySem.W.fnOf name qual params body scope dV kV doc pm an cdv ct), osl⟩) (hcd : PySem.W.codeIn K cdv qual = true) (S : FnScope N ps scope)
    (len : ∀ p vs H Q E, sp p vs H Q E → vs.length = ps.length)
    (hbody : ∀ (A : Around) (outer : List Env) (s : Shared) (H : Hp) (vs : List V) (Q : VK) (E : XK) (p : Addr × Obj), L2H.Hot1 A p → L2H.RoomH k (A.deeper (PyProof.Rows.envOfC qual scope s.heap.objs.size f cdv)) → sp p vs H Q E →
      ∃ t, PSs (L2H.cxH CX P w K mg base N qual scope f cdv A outer s H E p) body t ∧ t { nx := fun _ H' => Q .non H', rt := Q } (L2.start N vs) H) :
    FnX P w K mg base CX (k + 1) f (PySem.W.fnOf name qual params body scope dV kV doc pm an cdv ct) ps sp := by
  constructor
  · exact len
  intro A outer s H args us vs Q E p room hot pinned e0 bound r want
  have keep := fun b o e => (e0.bs b o e).1
  have inK : K.In s.heap := e0.mod.kin.keeps keep
  have kinds : ∀ y ∈ ps.zip us, scope.names.lookup y.1 = some .local ∨ (scope.names.lookup y.1 = some .cell ∧ ((cellsFrom (s.heap.objs.size + 1) scope.names []).lookup y.1).isSome = true) := by
    rintro ⟨n, u⟩ at_
    have par := S.par n (List.of_mem_zip at_).1
    exact par.imp id fun c => ⟨c, PySem.W.cellsFrom_some _ _ _ (.inl c)⟩
  refine codeAny_call_function room.depth (inK _ _ lk) rfl S.co S.gen rfl (PySem.W.codeRec_of inK hcd) (bound _ _ _ _ (wpAny_newFunctionEnv_cells S.kind kinds ?_))
  rintro env rfl s1 made
  refine ⟨(e0.mod.nolimit.keeps keep).keeps made.toInCall.keep, codeAny_func ?_⟩
  obtain ⟨t, run, q⟩ := hbody A outer s H vs Q E p hot (room.deeper _) want
  have it : Inv (L2H.cxH CX P w K mg base N qual scope f cdv A outer s H E p) [] (L2.start N vs) H s1 := L2H.inv_startH S pinned e0 (len _ _ _ _ _ want) r made
  refine wpAny_mono (run.run [] s1 _ H _ it q) ?_ fun _ _ z => z
  have answer : ∀ {σ2 : L2.St} {H2 : Hp} {v : V} {u : Value} {s2 : Shared}, Inv (L2H.cxH CX P w K mg base N qual scope f cdv A outer s H E p) [] σ2 H2 s2 → RelV v u → Q v H2 → CE outer P w H s Q u s2 :=
    fun {_ H2 v _ _} it2 rv q2 => ⟨v, H2, it2.os, it2.bare, it2.base, it2.hok, rv, q2⟩
  rintro (_ | _ | _ | u) s2 end_
  · obtain ⟨σ2, H2, it2, q2⟩ := end_
    exact answer it2 (v := V.non) rfl q2
  · exact end_.elim fun _ z => z.elim fun _ z => z.2.elim
  · exact end_.elim fun _ z => z.elim fun _ z => z.2.elim
  · obtain ⟨v, σ2, H2, it2, rv, q2⟩ := end_
    exact answer it2 rv q2
section
variable {X : Cx} {CX : CXT} {k : Nat} {f C : Addr} {fd : FuncData} {ps : List Str} {sp : Addr × Obj → Sp} {E : L2.St → XK} {x m : Str} {q pos apos : Pos} {e o : Expr} {es : List Expr} {ta : TE} {t : TA} {p : Addr × Obj}
theorem run_fnX {ps2 : List (Addr × Obj)} {σ : L2.St} {H : Hp} {s : Shared} {Q : VK} {us : List Value} {vs : List V} (F : FnX X.prog X.w X.K X.mg X.base CX k f fd ps sp) (room : L2H.RoomH k X.A) (hot : L2H.Hot1 X.A p) (at_ : p ∈ X.pn) (hb : Binds X.K fd ps []) (out : PassesAt CX X σ (E σ))
    (it : Inv X ps2 σ H s) (r : Vals vs us) (want : sp p vs H Q (E σ)) : wpAny (model X.prog X.w) X.A (call (.ref f) us) (L2.EP X ps2 σ Q) X.xe s := by
  have cnt : (us ++ []).length = ps.length := by rw [List.append_nil, ← r.length]; exact F.len _ _ _ _ _ want
  have bound := hb s us it.kIn cnt
  rw [List.append_nil] at bound
  obtain ⟨there, free, nL, nF, noCell⟩ := it.pin p (List.mem_append_left _ at_)
  have pinned : L2H.PinOk X.stack H s p := ⟨there, free, fun z => (List.mem_cons.mp (it.stkSub p.1 z)).elim nL nF, noCell⟩
  apply wpAny_call
  refine codeAny_mono (F.run X.A X.stack s H _ us vs Q (E σ) p room hot pinned it.env0 bound r want) ?_
  rintro (er | fl) s2 end_
  · exact out ps2 H s er s2 it end_
  · cases fl with
    | ret u => exact it.after end_
    | _ => exact False.elim end_
theorem pe_callX (F : FnX X.prog X.w X.K X.mg X.base CX k f fd ps sp) (room : L2H.RoomH k X.A) (hot : L2H.Hot1 X.A p) (at_ : p ∈ X.pn) (hg : Gl X x) (hm : X.mg x = some (.ref f)) (hk : PySem.W.keepIn X.K (.ref f) = true) (hb : Binds X.K fd ps []) (out : ∀ σ, PassesAt CX X σ (E σ))
    (ha : PA X (e :: es) t) (hdb : (x == ("__debug__" : Str)) = false := by decide)
    (he : starEach (e :: es) X.env = (false, eval e X.env) :: starEach es X.env := by rfl)
    (hpl : (backTo pos (starEach es X.env)).any (·.1) = false := by rfl) : PE X (.Call (.Name x q) (e :: es) [] pos) (tCallS (sp p) E t) := by
  constructor
  intro ps2 s σ H Q it want
  apply wpAny_Call_Name_kw
  apply ld_glob it hg hm _ hdb
  have each := ha.run pos ps2 s σ H _ it want
  refine PySem.W.callWith_K (h₀ := X.base) it.ok.mod.kin hk (thn each ?_) he hpl
  rintro us s1 ⟨vs, H1, it1, r, q1⟩
  exact ⟨it1.kIn, run_fnX F room hot at_ hb (out σ) it1 r q1⟩
end
def spX (K : PySem.W.Frag) (m : Addr → Exo → FM) : Addr × Obj → Sp := fun p vs H Q E => ∃ e, HotO p.2 e ∧ spM K (m p.1 e) vs H Q E
section
variable {P : Program} {w : World} {K : PySem.W.Frag} {base : Heap} {mg : Str → Option Value}
theorem fn_okX {x qual : Str} {st : Stmt} {f : Addr} {fd : FuncData} {N ps : List Str} {k : Nat} {F : Addr → Exo → SM} (np nn : Nat) (hnp : ps.length = np) (hnn : N.length = nn) (Fn : Fun K x qual st f fd) (S : FnScope N ps (defScope st))
    (hbody : ∀ (cdv : Value) (A : Around) (outer : List Env) (s : Shared) (H : Hp) (E : XK) (p : Addr × Obj) (e : Exo), L2H.RoomH k (A.deeper (PyProof.Rows.envOfC qual (defScope st) s.heap.objs.size f cdv)) → HotE (L2H.cxH (L2N.CX P w) P w K mg base N qual (defScope st) f cdv A outer s H E p) p.1 e →
      PSs (L2H.cxH (L2N.CX P w) P w K mg base N qual (defScope st) f cdv A outer s H E p) (defBody st) (tS K (fun cls d _ H => E cls d H) (F p.1 e))) :
    FnX P w K mg base (L2N.CX P w) (k + 1) f fd ps (spX K fun a e => fnM np nn (F a e)) := by
  subst hnp hnn
  obtain ⟨oc, od, kV, doc, pm, an, cdv, ct, osl, rfl, lk, hcd⟩ := Fn.ex
  refine fn_ofX lk hcd S (fun p vs H Q E h => ?_) (fun A outer s H vs Q E p hot hr h => ?_)
  · obtain ⟨e, _, B, ds, _, rs, k⟩ := h
    unfold fnM at k
    dsimp only at k
    by_cases hl : ds.length = ps.length
    · rw [← rs.length, hl]
    · rw [if_neg hl] at k; exact k.elim
  · obtain ⟨e, ho, B, ds, le, rs, k⟩ := h
    refine ⟨_, hbody cdv A outer s H E p e hr ⟨p.2, List.mem_singleton.mpr rfl, hot, ho⟩, ?_⟩
    unfold fnM at k
    dsimp only at k
    by_cases hl : ds.length = ps.length
    · rw [if_pos hl] at k
      have hv : vs.length = ps.length := by rw [← rs.length, hl]
      have si := SI.start le rs (N.length - ps.length)
      unfold L2.start
      rw [hv]
      refine tS_mk si ?_
      cases hF : F p.1 e (ds.map (Sl.v 0) ++ List.replicate (N.length - ps.length) .un) with
      | nx s' => simp only [hF] at k; exact fun B' σ' H' fps' si' => k B' .non H' [] si'.st ⟨⟨rfl, rep_non⟩, List.nodup_nil, fun a z => nomatch z⟩
      | rt n d => simp only [hF] at k; exact k
      | bk s' => simp only [hF] at k
      | ct s' => simp only [hF] at k
      | exc e s' => simp only [hF] at k; exact fun B' σ' H' fps' cls dd si' ex => k B' cls dd H' si'.st ex
      | no => simp only [hF] at k
    · rw [if_neg hl] at k; exact k.elim
end
section
variable {X : Cx} {W : WX} {e a b : Expr} {es : List Expr} {pos p : Pos} {g1 : EA} {m : Addr → Exo → FM} {k : Nat} {f : Addr} {fd : FuncData} {ps : List Str} {x : Str}
/-- f(..) in an except suite: a flat answer; the arguments borrowed -/
theorem b_callX {a0 : Addr} {e0 : Exo} (F : FnX X.prog X.w X.K X.mg X.base (L2N.CX X.prog X.w) k f fd ps (spX X.K m)) (tk : L2N.Takes X W) (hh : HotE X a0 e0) (hr : L2H.RoomH k X.A) (hg : Gl X x) (hm : X.mg x = some (.ref f)) (hk : PySem.W.keepIn X.K (.ref f) = true) (hb : Binds X.K fd ps [])
    (ha : PA X (e :: es) (tAh X.K W g1)) (hdb : (x == ("__debug__" : Str)) = false := by decide) (he : starEach (e :: es) X.env = (false, eval e X.env) :: starEach es X.env := by rfl) (hpl : (backTo pos (starEach es X.env)).any (·.1) = false := by rfl) :
    PE X (.Call (.Name x p) (e :: es) [] pos) (tB X.K W (eFnF (m a0 e0) g1)) := by
  obtain ⟨oe, hp, hot, ho⟩ := hh.pin
  refine pe_w (pe_callX F hr hot hp hg hm hk hb (fun σ => L2N.passAt tk σ) ha hdb he hpl) fun σ H Q hq => ?_
  obtain ⟨B, ss, fps, pi, k⟩ := hq
  refine ⟨B, ss, fps, pi, ?_⟩
  unfold eFnF at k
  cases h1 : g1 ss with
  | ok ds =>
    simp only [h1] at k
    intro B1 vs H1 s1 rs
    refine ⟨e0, ho, H1, ds, Le.refl _, rs, ?_⟩
    cases h2 : m a0 e0 ds with
    | ok r =>
      obtain ⟨n, d⟩ := r
      simp only [h2] at k
      by_cases hf : flat d = true
      · rw [if_pos hf] at k
        intro B' v H' fp st nw
        have s2 : Stp B1 H1 B1 H' := ⟨Le.refl _, st.hh, s1.bh.trans st.hh, fun _ z _ => z⟩
        exact k B1 v H' (s1.trans s2) (bw0 (nw.ow.bw.flat hf))
      · rw [if_neg hf] at k; exact k.elim
    | exc e =>
      simp only [h2] at k
      by_cases hf : flatX e = true
      · rw [if_pos hf] at k
        intro B' cls dd H' st ex
        have s2 : Stp B1 H1 B1 H' := ⟨Le.refl _, st.hh, s1.bh.trans st.hh, fun _ z _ => z⟩
        exact k B1 cls dd H' (s1.trans s2) (exR_flat hf ex)
      · rw [if_neg hf] at k; exact k.elim
    | no => simp only [h2] at k
  | exc e => simp only [h1] at k; exact k
  | no => simp only [h1] at k
end

/-! ### isinstance(e, ..) of the exception at hand -/
section
variable {X : Cx} {a : Addr} {ex : Exo}
theorem hot_at (h : HotE X a ex) (hn : ex.fs = none) {pins : List (Addr × Obj)} {σ : L2.St} {H : Hp} {s : Shared} (I : Inv X pins σ H s) : ∃ oe, PySem.W.InstAt s.heap a oe ex.C none := by
  obtain ⟨oe, pn, ⟨_, vs, hv, _⟩, ho⟩ := h.pin
  obtain ⟨there, _⟩ := I.pin (a, oe) (List.mem_append.mpr (.inl pn))
  refine ⟨oe, ?_⟩
  obtain ⟨cl_, od, oda, sl_⟩ := oe
  have h1 := ho.cls
  have h2 := ho.dct hn
  dsimp only at h1 h2 hv
  subst h1 h2 hv
  exact ⟨there, rfl, rfl, trivial⟩
theorem call_isx (h : HotE X a ex) (hn : ex.fs = none) (C : ExcC X.K ex.C) : CallR X (.builtin "isinstance") (fun xs H Q => ∃ (c : V) (cv : Value) (b : Bool), xs = [.ref a, c] ∧ ClsV c cv ∧ PySem.W.kitOne X.K (.ref ex.C) cv = some b ∧ Q (.bl b) H) := by
  intro ps2 st σ H xs us Q it r want
  obtain ⟨c, cv, b, rfl, hcv, e, q⟩ := want
  obtain ⟨w1, w2, rfl, same1, same2⟩ := vals2 r
  have e2 := hcv.eq same2
  subst e2
  cases (show w1 = Value.ref a from same1)
  obtain ⟨oe, J⟩ := hot_at h hn it
  exact PySem.W.kia_one (PySem.W.handS_kitx_exc C.hg C.hk C.hs C.hd C.ha C.hn C.ht C.hm) it.kIn J e (fun z => nomatch z) fun tk => ⟨.bl b, H, it.kept (t' := tk) fun _ _ z => z, rfl, q⟩
theorem call_isxT (h : HotE X a ex) (hn : ex.fs = none) (C : ExcC X.K ex.C) : CallR X (.builtin "isinstance") (fun xs H Q => ∃ (tp : Addr) (cs : List V) (ws : List Value) (b : Bool), xs = [.ref a, .ref tp] ∧ H tp = some (.tup cs) ∧ Paired ClsV cs ws ∧ PySem.W.kitAny X.K (.ref ex.C) ws = some b ∧ Q (.bl b) H) := by
  intro ps2 st σ H xs us Q it r want
  obtain ⟨tp, cs, ws, b, rfl, hT, k, e, q⟩ := want
  obtain ⟨w1, w2, rfl, same1, same2⟩ := vals2 r
  cases (show w2 = Value.ref tp from same2)
  cases (show w1 = Value.ref a from same1)
  obtain ⟨oe, J⟩ := hot_at h hn it
  obtain ⟨_, its, rv, o, at_, isT, n, dat⟩ := (show ObjOk X.prog X.w H st.heap tp (.tup cs) from it.hok tp _ hT)
  have e3 := ClsV.all k rv
  subst e3
  obtain ⟨oc, od, dt, sl⟩ := o
  simp only at isT dat
  subst isT dat
  exact PySem.W.kia_tup (PySem.W.handS_kitx_exc C.hg C.hk C.hs C.hd C.ha C.hn C.ht C.hm) it.kIn J at_ e (fun z => nomatch z) fun tk => ⟨.bl b, H, it.tok tk, rfl, q⟩
end
noncomputable def eIsx (K : PySem.W.Frag) (a : Addr) (ex : Exo) (ws : List Value) (f : EB) : EB := fun ss => if ex.fs = none ∧ ExcC K ex.C then (match f ss with
  | .ok (_, .exo a') => if a' = a then (match PySem.W.kitAny K (.ref ex.C) ws with
    | some b => .ok (0, .bl b)
    | none => .no) else .no
  | .ok _ => .no
  | .exc e => .exc e
  | .no => .no) else .no
def tCs : List V → TA
  | [] => tNil
  | v :: vs => tCons (tC v) (tCs vs)
theorem tCs_eq {vs : List V} {σ : L2.St} {H : Hp} {Q : List V → Hp → Prop} (h : Q vs H) : tCs vs σ H Q := by
  induction vs generalizing Q with
  | nil => exact h
  | cons v vs ih => exact ih (Q := fun xs H => Q (v :: xs) H) h
theorem kitAny1 {K : PySem.W.Frag} {t c : Value} {b : Bool} (h : PySem.W.kitAny K t [c] = some b) : PySem.W.kitOne K t c = some b := by
  unfold PySem.W.kitAny at h
  cases hk : PySem.W.kitOne K t c with
  | none =>
    rw [hk] at h; cases h
  | some r =>
    rw [hk] at h
    cases r with
    | true => exact h
    | false => exact h
section
variable {X : Cx} {W : WX} {e : Expr} {es : List Expr} {pos p q : Pos} {f : EB} {a0 : Addr} {ex : Exo}
theorem rep_exo {K : PySem.W.Frag} {B : Hp} {a : Addr} {v : V} (h : Rep K B (.exo a) v) : v = .ref a := by rw [Rep] at h; exact h
theorem b_isx1 (hh : HotE X a0 ex) {x : Str} {c : V} {cv : Value} (hg : Gl X "isinstance") (hm : X.mg "isinstance" = none) (hc : ClsV c cv) (hx : PE X (.Name x q) (tC c)) (ha : PE X e (tB X.K W f))
    (he : starEach [e, .Name x q] X.env = (false, eval e X.env) :: starEach [.Name x q] X.env := by rfl) (he2 : starEach [.Name x q] X.env = (false, eval (.Name x q) X.env) :: starEach [] X.env := by rfl) (hpl : (backTo pos (starEach [.Name x q] X.env)).any (·.1) = false := by rfl) :
    PE X (.Call (.Name "isinstance" p) [e, .Name x q] [] pos) (tB X.K W (eIsx X.K a0 ex [cv] f)) := by
  refine (⟨fun pins s σ H Q I hq => ?_⟩)
  obtain ⟨B, ss, fps, pi, k⟩ := hq
  unfold eIsx at k
  by_cases hn : ex.fs = none ∧ ExcC X.K ex.C
  · rw [if_pos hn] at k
    refine (pe_callB (call_isx hh hn.1 hn.2) hg hm (by decide +kernel) (pa_cons ha (pa_cons hx pa_nil he2) he) (by decide) (by decide) he hpl).run pins s σ H Q I ?_
    refine ⟨B, ss, fps, pi, ?_⟩
    cases h : f ss with
    | ok r =>
      obtain ⟨n, d⟩ := r
      cases d with
      | exo a' =>
        simp only [h] at k
        by_cases ha' : a' = a0
        · subst ha'
          rw [if_pos rfl] at k
          cases hk : PySem.W.kitAny X.K (.ref ex.C) [cv] with
          | none => rw [hk] at k; exact k.elim
          | some b =>
            rw [hk] at k
            intro B1 v H1 s1 bw
            have hv := rep_exo (bw.flat (B' := B1) rfl)
            subst hv
            exact ⟨c, cv, b, rfl, hc, kitAny1 hk, k B1 _ H1 s1 (bw0 rep_bl)⟩
        · rw [if_neg ha'] at k; exact k.elim
      | _ => simp only [h] at k
    | exc e => simp only [h] at k; exact k
    | no => simp only [h] at k
  · rw [if_neg hn] at k; exact k.elim
theorem b_isxT (hh : HotE X a0 ex) {cs : List V} {ws : List Value} {es : List Expr} {z : Nat} {tpos : Pos} (hg : Gl X "isinstance") (hm : X.mg "isinstance" = none) (hc : Paired ClsV cs ws) (hx : PA X es (tCs cs)) (hl : cs.length ≤ sizeLine) (ha : PE X e (tB X.K W f))
    (he : starEach [e, .Tuple es z tpos] X.env = (false, eval e X.env) :: starEach [.Tuple es z tpos] X.env := by rfl) (he2 : starEach [.Tuple es z tpos] X.env = (false, eval (.Tuple es z tpos) X.env) :: starEach [] X.env := by rfl) (hpl : (backTo pos (starEach [.Tuple es z tpos] X.env)).any (·.1) = false := by rfl) :
    PE X (.Call (.Name "isinstance" p) [e, .Tuple es z tpos] [] pos) (tB X.K W (eIsx X.K a0 ex ws f)) := by
  refine (⟨fun pins s σ H Q I hq => ?_⟩)
  obtain ⟨B, ss, fps, pi, k⟩ := hq
  unfold eIsx at k
  by_cases hn : ex.fs = none ∧ ExcC X.K ex.C
  · rw [if_pos hn] at k
    refine (pe_callB (call_isxT hh hn.1 hn.2) hg hm (by decide +kernel) (pa_cons ha (pa_cons (pe_tup hx) pa_nil he2) he) (by decide) (by decide) he hpl).run pins s σ H Q I ?_
    refine ⟨B, ss, fps, pi, ?_⟩
    cases h : f ss with
    | ok r =>
      obtain ⟨n, d⟩ := r
      cases d with
      | exo a' =>
        simp only [h] at k
        by_cases ha' : a' = a0
        · subst ha'
          rw [if_pos rfl] at k
          cases hk : PySem.W.kitAny X.K (.ref ex.C) ws with
          | none => rw [hk] at k; exact k.elim
          | some b =>
            rw [hk] at k
            intro B1 v H1 s1 bw
            have hv := rep_exo (bw.flat (B' := B1) rfl)
            subst hv
            refine tCs_eq (Q := fun xs H2 => xs.length ≤ sizeLine ∧ ∀ p, H2 p = none → _) ⟨hl, fun tp ht => ?_⟩
            have s2 : Stp B1 H1 B1 (upd H1 tp (.tup cs)) := ⟨Le.refl _, Le.new ht, s1.bh.trans (Le.new ht), fun _ z _ => z⟩
            exact ⟨tp, cs, ws, b, rfl, upd_same, hc, hk, k B1 _ _ (s1.trans s2) (bw0 rep_bl)⟩
        · rw [if_neg ha'] at k; exact k.elim
      | _ => simp only [h] at k
    | exc e => simp only [h] at k; exact k
    | no => simp only [h] at k
  · rw [if_neg hn] at k; exact k.elim
end
theorem room_sx {k : Nat} {A : Around} {v : Option Value} (r : Room k A) : L2H.RoomH k (A.mark v) := ⟨r.dp, r.un⟩
theorem units_h {P : Program} {w : World} {K : PySem.W.Frag} {mg : Str → Option Value} {base : Heap} {N : List Str} {qual : Str} {scope : Scope} {f : Addr} {cdv : Value} {A : Around} {outer : List Env} {s : Shared} {H : Hp} {E : XK} {p : Addr × Obj} {k : Nat} (hr : L2H.RoomH k (A.deeper (PyProof.Rows.envOfC qual scope s.heap.objs.size f cdv))) : (L2H.cxH (L2N.CX P w) P w K mg base N qual scope f cdv A outer s H E p).A.units + 64 < cLine := by
  have := hr.un
  show (A.deeper _).units + 64 < cLine
  omega
end Mv

namespace Mv
open PySem L2

/-! ### the law's end -/
/-- what a law says: at a script it answers True -/
def spLaw (K : PySem.W.Frag) : Sp := fun vs H Q _ => ∃ (a : Addr) (ns : List Int), vs = [.ref a] ∧ SqL K H a (ns.map V.int) ∧ ns.length ≤ 63 ∧ (∀ z ∈ ns, Builtin.Int.intBits z ≤ 1048576) ∧ ∀ H', Q (.bl true) H'
theorem rp_int_list {K : PySem.W.Frag} {B : Hp} : ∀ ns : List Int, Reps K B (ns.map D.int) (ns.map V.int)
  | [] => reps_nil
  | n :: ns => reps_cons (by rw [Rep]) (rp_int_list ns)
theorem law_ok {P : Program} {w : World} {K : PySem.W.Frag} {mg : Str → Option Value} {base : Heap} {k : Nat} {f : Addr} {fd : FuncData} {x : Str} {m : FM} (F : FnOk P w K mg base (L2N.CX P w) k f fd [x] (spM K m))
    (h : ∀ ns : List Int, ns.length ≤ 63 → (∀ z ∈ ns, Builtin.Int.intBits z ≤ 1048576) → m [.rdl (ns.map D.int)] = .ok (0, .bl true)) : FnOk P w K mg base (L2N.CX P w) k f fd [x] (spLaw K) := by
  have imp : ∀ vs H Q E, spLaw K vs H Q E → spM K m vs H Q E := fun vs H Q E q => by
    obtain ⟨a, ns, rfl, hs, hl, hb, q⟩ := q
    refine ⟨H, [.rdl (ns.map D.int)], Le.refl _, reps_cons (by rw [Rep]; exact ⟨a, _, rfl, hs, rp_int_list ns⟩) reps_nil, ?_⟩
    rw [h ns hl hb]
    intro B' v H' fp st nw
    have hv : Rep K B' (.bl true) v := nw.ow.2
    rw [Rep] at hv
    rw [hv]
    exact q H'
  exact ⟨fun vs H Q E q => F.len vs H Q E (imp _ _ _ _ q), fun A outer s H args us vs Q E hr e0 hb hv q => F.run A outer s H args us vs Q E hr e0 hb hv (imp _ _ _ _ q)⟩
/-- the law's def stands in the written part: what must be shown of it -/
abbrev LawDef (P : Program) (K : Params → PySem.W.Frag) (d : DefRec) (x : Str) (k : Nat) : Prop := ∀ (w : World) (mg : Str → Option Value) (fa : Addr) (h : Heap), (K w.params).In h → h.Ns mainGlobals mg → mg d.name = some (.ref fa) → ∃ fd : FuncData, (∀ (s : Shared) (u : Value), BindsTo s fd ⟨[u], []⟩ [(x, u)]) ∧ ∀ base : Heap, (K w.params).In base → base.Ns mainGlobals mg → FnOk P w (K w.params) mg base (L2N.CX P w) k fa fd [x] (spLaw (K w.params))
theorem law_walk {l : PySem.W.OpenLaw} {k : Nat} {q : Program} {loose : List Str} {XP : (Str → Option Value) → Heap → Prop} {YP : World → Heap → Prop} {d : DefRec} {K : Params → PySem.W.Frag} {x : Str}
    (hn : l.most = some 63) (hdf : d.params.defaults = []) (hr : Room k callerA) (hY : ∀ (w : World) (h : Heap), YP w h → (K w.params).In h)
    (F : LawDef l.prog K d x k) : PySem.W.WalkO q loose XP YP l.row.toRowW d [] (fun f vs => PySem.call f vs) :=
  L2.walk_ofB (n := 63) (CX := fun w => L2N.CX l.prog w) (sp := fun w => spLaw (K w.params)) hn (by decide) hdf hr hY F (fun _ _ a ns hl hb _ hS => ⟨a, ns, rfl, hS, hl, hb, fun _ => rfl⟩)
    fun _ _ _ _ _ z => by obtain ⟨_, _, _, _, _, _, _, _, _, _, _, _, z⟩ := z; exact z

/-! ### classes of exceptions -/
section
variable {K : PySem.W.Frag} {C D : Addr} {T : String} {b : Bool}
theorem kit_cls1 (h1 : PySem.W.isClsIn K D = true) (h2 : PySem.W.typeIn K (.ref D) = some (.type "type")) (h3 : PySem.W.subIn K (.ref C) (.ref D) = some b) : PySem.W.kitCls K (.ref C) (.ref D) = some b := by
  have h1' : (PySem.W.clsIn K D).isSome = true := h1
  have e : ((PySem.W.clsIn K D).isSome && PySem.W.typeIn K (.ref D) == some (.type "type")) = true := by rw [h1', h2] <;> rfl
  show (if ((PySem.W.clsIn K D).isSome && PySem.W.typeIn K (.ref D) == some (.type "type")) = true then PySem.W.subIn K (.ref C) (.ref D) else none) = some b
  rw [if_pos e]; exact h3
theorem kit_own (h0 : (Value.ref C == Value.ref D) = false) (h1 : PySem.W.isClsIn K D = true) (h2 : PySem.W.typeIn K (.ref D) = some (.type "type")) (h3 : PySem.W.subIn K (.ref C) (.ref D) = some b) : PySem.W.kitOne K (.ref C) (.ref D) = some b := by
  unfold PySem.W.kitOne
  rw [h0]
  exact kit_cls1 h1 h2 h3
theorem kit_self : PySem.W.kitOne K (.ref C) (.ref C) = some true := by
  unfold PySem.W.kitOne
  rw [(if_pos (beq_self_eq_true _))]
theorem kit_bt (h1 : PySem.W.kitMeta T = true) (h3 : PySem.W.subIn K (.ref C) (.type T) = some b) : PySem.W.kitOne K (.ref C) (.type T) = some b := by
  unfold PySem.W.kitOne
  rw [show (Value.ref C == Value.type T) = false from rfl]
  show (if PySem.W.kitMeta T = true then PySem.W.subIn K (.ref C) (.type T) else none) = some b
  rw [if_pos h1]; exact h3
theorem exm_own (h0 : PySem.W.subIn K (.ref D) (.type "BaseException") = some true) (h1 : PySem.W.isClsIn K D = true) (h2 : PySem.W.typeIn K (.ref D) = some (.type "type")) (h3 : PySem.W.subIn K (.ref C) (.ref D) = some b) : PySem.W.exmOne K (.ref C) (.ref D) = some b := by
  unfold PySem.W.exmOne
  rw [if_pos (by rw [h0] <;> rfl)]
  exact kit_cls1 h1 h2 h3
end
end Mv

/-! What mirrors compute: lemmas in plain Lean. -/
namespace Mv
open PySem L2

theorem gEq_int (a b : Int) : gEq (.int a) (.int b) = some (.bl (decide (a = b))) := by
  rw [gEq_pl rfl rfl]
  congr 2
  by_cases h : a = b
  · subst h; simp
  · simp [h]
theorem gNe_int (a b : Int) : gNe (.int a) (.int b) = some (.bl (!decide (a = b))) := by unfold gNe; rw [gEq_int]
theorem gEq_bl (a b : Bool) : gEq (.bl a) (.bl b) = some (.bl (a == b)) := rfl
theorem gNe_bl (a b : Bool) : gNe (.bl a) (.bl b) = some (.bl (!(a == b))) := rfl
/-- a list of ints, of lists of ints -/
def il (xs : List Int) : D := .lst (xs.map .int)
def ill (xs : List (List Int)) : D := .lst (xs.map il)
theorem int_inj : Function.Injective D.int := fun a b h => by injection h
theorem map_inj {α : Type} {f : α → D} (hf : Function.Injective f) : ∀ {xs ys : List α}, xs.map f = ys.map f → xs = ys
  | [], [], _ => rfl
  | [], y :: ys, h => by cases h
  | x :: xs, [], h => by cases h
  | x :: xs, y :: ys, h => by
    rw [List.map_cons,
      List.map_cons] at h
    injection h with h1 h2
    rw [hf h1, map_inj hf h2]
theorem il_inj : Function.Injective il := fun a b h => by unfold il at h; injection h with h; exact map_inj int_inj h
theorem ill_inj : Function.Injective ill := fun a b h => by unfold ill at h; injection h with h; exact map_inj il_inj h
theorem pls_map {α : Type} {f : α → D} {n : Nat} (hf : ∀ a, pl (f a) n = true) : ∀ xs : List α, pls (xs.map f) n = true
  | [] => rfl
  | x :: xs => by rw [List.map_cons, pls, hf, pls_map hf xs]; rfl
theorem pl_il (xs : List Int) (n : Nat) : pl (il xs) (n + 1) = true := by
  unfold il; rw [pl]; simp [pls_map (n := n) (f := D.int) (fun a => rfl) xs]
theorem pl_ill (xs : List (List Int)) (n : Nat) : pl (ill xs) (n + 2) = true := by
  unfold ill; rw [pl]; simp [pls_map (n := n + 1) (f := il) (fun a => pl_il a n) xs]
theorem gEq_inj {α : Type} [DecidableEq α] {f : α → D} (hf : Function.Injective f) (hp : ∀ a, pl (f a) 60 = true) (a b : α) : gEq (f a) (f b) = some (.bl (decide (a = b))) := by
  rw [gEq_pl (hp a) (hp b)]
  congr 2
  by_cases h : a = b
  · subst h; simp
  · have : f a ≠ f b := fun z => h (hf z)
    simp [h, this]
theorem gEq_il (a b : List Int) : gEq (il a) (il b) = some (.bl (decide (a = b))) := gEq_inj il_inj (fun a => pl_il a 59) a b
theorem gEq_ill (a b : List (List Int)) : gEq (ill a) (ill b) = some (.bl (decide (a = b))) := gEq_inj ill_inj (fun a => pl_ill a 58) a b
theorem gNe_il (a b : List Int) : gNe (il a) (il b) = some (.bl (!decide (a = b))) := by unfold gNe; rw [gEq_il]
theorem gNe_ill (a b : List (List Int)) : gNe (ill a) (ill b) = some (.bl (!decide (a = b))) := by unfold gNe; rw [gEq_ill]
theorem ixN_nat {n k : Nat} (h : k < n) : ixN n (k : Int) = some k := by
  unfold ixN; rw [if_pos (by omega), if_pos (by omega), Int.toNat_natCast]
theorem atI_nat {α : Type} {xs : List α} {k : Nat} {x : α} (h : xs[k]? = some x) : atI xs (k : Int) = some x := by
  unfold atI
  obtain ⟨hl, _⟩ := List.getElem?_eq_some_iff.mp h
  rw [ixN_nat hl]
  exact h
theorem atI_of {α : Type} {xs : List α} {i : Int} {k : Nat} {x : α} (hi : i = (k : Int)) (h : xs[k]? = some x) : atI xs i = some x := by rw [hi]; exact atI_nat h
/-! loops -/
theorem loop_nx {step : D → SM} (I : Nat → En → Prop) : ∀ (ds : List D) (ss : En), I 0 ss → (∀ i d s, ds[i]? = some d → I i s → ∃ s', (step d s = .nx s' ∨ step d s = .ct s') ∧ I (i + 1) s') → ∃ s', loop step ds ss = .nx s' ∧ I ds.length s'
  | [], ss, h0, _ => ⟨ss, rfl, h0⟩
  | d :: ds, ss, h0, hs => by
    obtain ⟨s1, h1, h2⟩ := hs 0 d ss rfl h0
    obtain ⟨s', q1, q2⟩ := loop_nx (step := step) (fun i => I (i + 1)) ds s1 h2 fun i d' s hd hi => hs (i + 1) d' s (by simpa using hd) hi
    refine ⟨s', ?_, by simpa using q2⟩
    unfold loop
    rcases h1 with h1 | h1 <;> rw [h1] <;> exact q1
/-- a loop that may return -/
theorem loop_rt {step : D → SM} (I : Nat → En → Prop) (R : SO → Prop) : ∀ (ds : List D) (ss : En), I 0 ss → (∀ i d s, ds[i]? = some d → I i s → (∃ s', (step d s = .nx s' ∨ step d s = .ct s') ∧ I (i + 1) s') ∨ (∃ n v, step d s = .rt n v ∧ R (.rt n v))) →
    (∃ s', loop step ds ss = .nx s' ∧ I ds.length s') ∨ (∃ n v, loop step ds ss = .rt n v ∧ R (.rt n v))
  | [], ss, h0, _ => .inl ⟨ss, rfl, h0⟩
  | d :: ds, ss, h0, hs => by
    rcases hs 0 d ss rfl h0 with ⟨s1, h1, h2⟩ | ⟨n, v, h1, h2⟩
    · have ih := loop_rt (step := step) (fun i => I (i + 1)) R ds s1 h2 fun i d' s hd hi => hs (i + 1) d' s (by simpa using hd) hi
      have e : loop step (d :: ds) ss = loop step ds s1 := by
        conv => lhs; unfold loop
        rcases h1 with h1 | h1 <;> rw [h1]
      rw [e]
      simpa using ih
    · refine .inr ⟨n, v, ?_, h2⟩
      unfold loop
      rw [h1]
theorem lcL_map {α : Type} {tgt : Tgt} {fe : EB} {sw : En} {f : α → D} {g : α → D} : ∀ (xs : List α), (∀ x ∈ xs, ∃ s1, tgt (f x) sw = some s1 ∧ fe s1 = .ok (0, g x)) → lcL tgt tcYes fe sw (xs.map f) = .ok (xs.map g)
  | [], _ => rfl
  | x :: xs, h => by
    obtain ⟨s1, h1, h2⟩ := h x List.mem_cons_self
    rw [List.map_cons, lcL, h1]
    simp only [tcYes, h2]
    rw [lcL_map xs fun y hy => h y (List.mem_cons_of_mem _ hy)]
    rfl
theorem lcL_filter {α : Type} {tgt : Tgt} {tc : ET} {fe : EB} {sw : En} {f : α → D} {g : α → D} {p : α → Bool} : ∀ (xs : List α), (∀ x ∈ xs, ∃ s1, tgt (f x) sw = some s1 ∧ tc s1 = .ok (p x) ∧ fe s1 = .ok (0, g x)) → lcL tgt tc fe sw (xs.map f) = .ok ((xs.filter p).map g)
  | [], _ => rfl
  | x :: xs, h => by
    obtain ⟨s1, h1, h2, h3⟩ := h x List.mem_cons_self
    have ih := lcL_filter (p := p) (g := g) xs fun y hy => h y (List.mem_cons_of_mem _ hy)
    rw [List.map_cons, lcL, h1]
    simp only [h2, h3]
    cases hp : p x with
    | true => simp only [ih]; rw [List.filter_cons_of_pos hp]; rfl
    | false => simp only [ih]; rw [List.filter_cons_of_neg (by rw [hp]; decide)]
theorem il_len {xs : List Int} : gLen [il xs] = some (.int xs.length) := by unfold il gLen; simp
theorem ill_len {xs : List (List Int)} : gLen [ill xs] = some (.int xs.length) := by unfold ill gLen; simp
theorem seq_nx {F G : SM} {ss s' : En} (h : F ss = .nx s') : sSeq F G ss = G s' := by unfold sSeq; rw [h]
theorem seq_rt {F G : SM} {ss : En} {n : Nat} {d : D} (h : F ss = .rt n d) : sSeq F G ss = .rt n d := by unfold sSeq; rw [h]
theorem seq_ex {F G : SM} {ss s' : En} {e : Exo} (h : F ss = .exc e s') : sSeq F G ss = .exc e s' := by unfold sSeq; rw [h]
theorem loop_all {α : Type} {step : D → SM} {f : α → D} {p : α → Bool} {A : Sl → En} {n : Nat} {v : D} : ∀ (xs : List α) (o : Sl), (∀ x ∈ xs, ∀ o, (p x = true → ∃ o', step (f x) (A o) = .nx (A o')) ∧ (p x = false → step (f x) (A o) = .rt n v)) →
    (xs.all p = true → ∃ o', loop step (xs.map f) (A o) = .nx (A o')) ∧ (xs.all p = false → loop step (xs.map f) (A o) = .rt n v)
  | [], o, _ => ⟨fun _ => ⟨o, rfl⟩, fun h => by cases h⟩
  | x :: xs, o, h => by
    have ih := fun o => loop_all (p := p) (A := A) (n := n) (v := v) xs o fun y hy => h y (List.mem_cons_of_mem _ hy)
    obtain ⟨h1, h2⟩ := h x List.mem_cons_self o
    rw [List.all_cons, List.map_cons]
    cases hp : p x with
    | true =>
      obtain ⟨o', e⟩ := h1 hp
      have e2 : loop step (f x :: xs.map f) (A o) = loop step (xs.map f) (A o') := by
        conv => lhs; unfold loop
        rw [e]
      rw [e2, Bool.true_and]
      exact ih o'
    | false =>
      refine ⟨fun z => Bool.noConfusion z, fun _ => ?_⟩
      unfold loop
      rw [h2 hp]
theorem setI_il {i : Nat} {fi f : EB} {ss : En} {xs : List Int} {k v : Int} {j m : Nat} (h1 : f ss = .ok (0, .int v)) (h2 : fi ss = .ok (m, .int k)) (h3 : ss[i]? = some (.v 1 (il xs))) (h4 : k = (j : Int)) (h5 : j < xs.length) :
    sSetI i fi f ss = .nx (ss.set i (.v 1 (il (xs.set j v)))) := by
  unfold sSetI
  unfold il at h3
  subst h4
  simp only [h1, h2, h3]
  rw [List.length_map, ixN_nat h5]
  simp only [if_true, il, List.map_set]
theorem app_il {i : Nat} {f : EB} {ss : En} {xs : List Int} {v : Int} (h1 : f ss = .ok (0, .int v)) (h3 : ss[i]? = some (.v 1 (il xs))) (h5 : xs.length < 10000000) :
    sApp i f ss = .nx (ss.set i (.v 1 (il (xs ++ [v])))) := by
  unfold sApp
  unfold il at h3
  simp only [h1, h3]
  rw [if_pos (by simpa using h5)]
  simp only [il, List.map_append, List.map_cons, List.map_nil]
theorem il_ix {xs : List Int} {n d : Nat} {x : Int} (h : xs[d]? = some x) : ixD n (il xs) (.int (d : Int)) = some (n - 1, .int x) := by
  unfold il ixD
  dsimp only
  rw [atI_nat (k := d) (x := D.int x) (by simp [h])]
  rfl
theorem ill_ix {xs : List (List Int)} {n d : Nat} {x : List Int} (h : xs[d]? = some x) : ixD n (ill xs) (.int (d : Int)) = some (n - 1, il x) := by
  unfold ill ixD
  dsimp only
  rw [atI_nat (k := d) (x := il x) (by simp [h])]
  rfl
theorem smallI_nat {n : Nat} (h : n ≤ 1000000000) : smallI (n : Int) = true := by
  unfold smallI
  rw [Bool.and_eq_true]
  constructor
  · apply decide_eq_true; omega
  · apply decide_eq_true; omega
theorem iRg1_ok {g : EA} {ss : En} {n : Nat} (h : g ss = .ok [.int (n : Int)]) (hn : n ≤ 1000000000) : iRg1 g ss = .ok (rngD 0 n) := by
  unfold iRg1
  rw [h]
  simp only [smallI_nat hn, if_true, Int.toNat_natCast]
theorem for_rng {g : EA} {ss : En} {n : Nat} {t : Tgt} {F : SM} (h : g ss = .ok [.int (n : Int)]) (hn : n ≤ 1000000000) : sFor (iRg1 g) t F ss = loop (stepF t F) (rngD 0 n) ss := by
  unfold sFor
  rw [iRg1_ok h hn]
theorem for_lst {f : EB} {ss : En} {ds : List D} {t : Tgt} {F : SM} (h : f ss = .ok (0, .lst ds)) : sFor (iSeq f) t F ss = loop (stepF t F) ds ss := by
  have e : iSeq f ss = .ok ds := by unfold iSeq; rw [h]; rfl
  unfold sFor
  rw [e]
theorem for_il {f : EB} {ss : En} {xs : List Int} {t : Tgt} {F : SM} (h : f ss = .ok (0, il xs)) : sFor (iSeq f) t F ss = loop (stepF t F) (xs.map .int) ss := for_lst h
theorem for_ill {f : EB} {ss : En} {xs : List (List Int)} {t : Tgt} {F : SM} (h : f ss = .ok (0, ill xs)) : sFor (iSeq f) t F ss = loop (stepF t F) (xs.map il) ss := for_lst h
theorem rep_zero {f2 : EB} {ss : En} {m n : Nat} (h2 : f2 ss = .ok (m, .int (n : Int))) (hn : n ≤ 10000000) : eRep (frzE (eLst (a0Cons (eC (.int 0)) aNil))) f2 ss = .ok (1, il (List.replicate n 0)) := by
  have h1 : frzE (eLst (a0Cons (eC (.int 0)) aNil)) ss = .ok (0, .lst [.int 0]) := rfl
  unfold eRep
  rw [h1]
  simp only [h2, smallI_nat (show n ≤ 1000000000 by omega), Int.toNat_natCast]
  rw [if_pos ⟨by decide, True.intro, by simpa using hn⟩]
  simp [il]
theorem len_il {ss : En} {i n : Nat} {xs : List Int} (h : ss[i]? = some (.v n (il xs))) : eCall gLen (aCons (eVar i) aNil) ss = .ok (0, .int (xs.length : Int)) := by
  simp [eCall, aCons, eVar, aNil, h, il_len]
theorem len_ill {ss : En} {i n : Nat} {xs : List (List Int)} (h : ss[i]? = some (.v n (ill xs))) : eCall gLen (aCons (eVar i) aNil) ss = .ok (0, .int (xs.length : Int)) := by
  simp [eCall, aCons, eVar, aNil, h, ill_len]
theorem aOne {f : EB} {ss : En} {n : Nat} {d : D} (h : f ss = .ok (n, d)) : aCons f aNil ss = .ok [d] := by
  simp [aCons, aNil, h]
theorem asg_ok {f : EB} {ss : En} {i n : Nat} {d : D} (h : f ss = .ok (n, d)) : sAsg i f ss = .nx (ss.set i (.v n d)) := by unfold sAsg; rw [h]
theorem own0_ok {f : EB} {ss : En} {d : D} (h : f ss = .ok (0, d)) : own0 f ss = .ok (0, d) := by
  unfold own0; rw [h]; rfl
theorem fn_rt {np nn : Nat} {F : SM} {ds : List D} {env : En} {n : Nat} {d : D} (h1 : ds.length = np) (h2 : ds.map (Sl.v 0) ++ List.replicate (nn - np) .un = env) (h : F env = .rt n d) : fnM np nn F ds = .ok (n, d) := by
  unfold fnM
  rw [if_pos h1, h2, h]
theorem fn_ex {np nn : Nat} {F : SM} {ds : List D} {env ss : En} {e : Exo} (h1 : ds.length = np) (h2 : ds.map (Sl.v 0) ++ List.replicate (nn - np) .un = env) (h : F env = .exc e ss) : fnM np nn F ds = .exc e := by
  unfold fnM
  rw [if_pos h1, h2, h]
theorem retV_ok {ss : En} {i n : Nat} {d : D} (h : ss[i]? = some (.v n d)) : sRetV i ss = .rt n d := by unfold sRetV; rw [h]
theorem ret_ok {ss : En} {f : EB} {n : Nat} {d : D} (h : f ss = .ok (n, d)) : sRet f ss = .rt n d := by unfold sRet; rw [h]
theorem if_t {t : ET} {F G : SM} {ss : En} (h : t ss = .ok true) : sIf t F G ss = F ss := by unfold sIf; rw [h]
theorem if_f {t : ET} {F G : SM} {ss : En} (h : t ss = .ok false) : sIf t F G ss = G ss := by unfold sIf; rw [h]
theorem lc_ok {α : Type} {vs : List Nat} {fi : EI} {tgt : Tgt} {fe : EB} {ss : En} {f g : α → D} (xs : List α) (h1 : fi ss = .ok (xs.map f)) (hl : xs.length < 10000000)
    (h : ∀ x ∈ xs, ∃ s1, tgt (f x) (wipeS ss vs) = some s1 ∧ fe s1 = .ok (0, g x)) : eLc vs fi tgt tcYes fe ss = .ok (1, .lst (xs.map g)) := by
  unfold eLc
  rw [h1]
  simp only [List.length_map, hl, if_true]
  rw [lcL_map xs h]
theorem lcF_ok {α : Type} {vs : List Nat} {fi : EI} {tgt : Tgt} {tc : ET} {fe : EB} {ss : En} {f g : α → D} {p : α → Bool} (xs : List α) (h1 : fi ss = .ok (xs.map f)) (hl : xs.length < 10000000)
    (h : ∀ x ∈ xs, ∃ s1, tgt (f x) (wipeS ss vs) = some s1 ∧ tc s1 = .ok (p x) ∧ fe s1 = .ok (0, g x)) : eLc vs fi tgt tc fe ss = .ok (1, .lst ((xs.filter p).map g)) := by
  unfold eLc
  rw [h1]
  simp only [List.length_map, hl, if_true]
  rw [lcL_filter xs h]
theorem iSeq_ok {f : EB} {ss : En} {ds : List D} (h : f ss = .ok (0, .lst ds)) : iSeq f ss = .ok ds := by unfold iSeq; rw [h]; rfl
theorem frz_ok {f : EB} {ss : En} {n : Nat} {d : D} (h : f ss = .ok (n, d)) : frzE f ss = .ok (0, d) := by unfold frzE; rw [h]
theorem var_ok {ss : En} {i n : Nat} {d : D} (h : ss[i]? = some (.v n d)) : eVar i ss = .ok (n, d) := by unfold eVar; rw [h]
theorem cut_from {xs : List D} {a : Nat} : cutD xs (some (a : Int)) none = xs.drop a := by
  unfold cutD
  rw [HT.sIx_nat, HT.sIx_none]
  by_cases h : a ≤ xs.length
  · rw [Nat.min_eq_left h]; exact List.take_of_length_le (by simp)
  · rw [Nat.min_eq_right (by omega), List.drop_of_length_le (Nat.le_refl _), List.drop_of_length_le (by omega)]; simp
theorem cut_to {xs : List D} {a : Nat} : cutD xs none (some (a : Int)) = xs.take a := by
  unfold cutD
  rw [HT.sIx_nat, HT.sIx_none, List.drop_zero, Nat.sub_zero]
  by_cases h : a ≤ xs.length
  · rw [Nat.min_eq_left h]
  · rw [Nat.min_eq_right (by omega),
      List.take_of_length_le (Nat.le_refl _), List.take_of_length_le (by omega)]
theorem sl_from {f g : EB} {ss : En} {n m a : Nat} {xs : List Int} (h : f ss = .ok (n, il xs)) (hn : n ≤ 1) (hg : g ss = .ok (m, .int (a : Int))) : eSl f (pSome g) pNone ss = .ok (1, il (xs.drop a)) := by
  unfold eSl pSome pNone il
  unfold il at h
  simp only [h, hg, hn, if_true, cut_from, List.map_drop]
theorem sl_to {f g : EB} {ss : En} {n m a : Nat} {xs : List Int} (h : f ss = .ok (n, il xs)) (hn : n ≤ 1) (hg : g ss = .ok (m, .int (a : Int))) : eSl f pNone (pSome g) ss = .ok (1, il (xs.take a)) := by
  unfold eSl pSome pNone il
  unfold il at h
  simp only [h, hg, hn, if_true, cut_to, List.map_take]
theorem cat_il {f g : EB} {ss : En} {n m : Nat} {xs ys : List Int} (h : f ss = .ok (n, il xs)) (hg : g ss = .ok (m, il ys)) (hn : n ≤ 1) (hm : m ≤ 1) (hl : xs.length + ys.length ≤ 10000000) : eCat f g ss = .ok (1, il (xs ++ ys)) := by
  unfold eCat il
  unfold il at h hg
  simp only [h, hg]
  rw [if_pos ⟨hn, hm, by simpa using hl⟩, List.map_append]
theorem list_il {f : EB} {ss : En} {n : Nat} {xs : List Int} (h : f ss = .ok (n, il xs)) (hn : n ≤ 1) : eList f ss = .ok (1, il xs) := by
  unfold eList il
  unfold il at h
  simp only [h, hn, if_true]
theorem choose_fn {α β : Type} [Inhabited β] {P : α → β → Prop} {xs : List α} (h : ∀ x ∈ xs, ∃ y, P x y) : ∃ f : α → β, ∀ x ∈ xs, P x (f x) := by
  classical
  exact ⟨fun x => if q : x ∈ xs then (h x q).choose else default, fun x q => by simp only [q, dif_pos]; exact (h x q).choose_spec⟩
theorem stepF_name {i : Nat} {F : SM} {d : D} {ss : En} : stepF (tgName i) F d ss = F (ss.set i (.v 0 d)) := rfl
theorem frzS_at {i n : Nat} {F : SM} {ss : En} {d : D} (h : ss[i]? = some (.v n d)) : sFrz i F ss = F (ss.set i (.v 0 d)) := by unfold sFrz frzSl; rw [h]
theorem frzS_un {i : Nat} {F : SM} {ss : En} (h : ss[i]? = some .un) : sFrz i F ss = F ss := by unfold sFrz frzSl; rw [h]
theorem a0_ok {f : EB} {g : EA} {ss : En} {d : D} {ds : List D} (h : f ss = .ok (0, d)) (hg : g ss = .ok ds) : a0Cons f g ss = .ok (d :: ds) := by
  have e : a0Cons f g ss = (match g ss with
    | .ok ds => .ok (d :: ds)
    | .exc e => .exc e
    | .no => .no) := by unfold a0Cons; rw [h]; rfl
  rw [e, hg]
theorem aC_ok {f : EB} {g : EA} {ss : En} {n : Nat} {d : D} {ds : List D} (h : f ss = .ok (n, d)) (hg : g ss = .ok ds) : aCons f g ss = .ok (d :: ds) := by
  unfold aCons; rw [h, hg]
theorem fn_ok' {m : FM} {g : EA} {ss : En} {ds : List D} (h : g ss = .ok ds) : eFn m g ss = m ds := by unfold eFn; rw [h]
theorem fnF_ok {m : FM} {g : EA} {ss : En} {ds : List D} {n : Nat} {d : D} (h : g ss = .ok ds) (hm : m ds = .ok (n, d)) (hf : flat d = true) : eFnF m g ss = .ok (0, d) := by
  unfold eFnF; rw [h]; simp only [hm, hf, if_true]
theorem ixi_ok {f g : EB} {ss : En} {m k : Nat} {xs : List Int} {x : Int} (h : f ss = .ok (0, il xs)) (hg : g ss = .ok (m, .int (k : Int))) (hx : xs[k]? = some x) : eIx f g ss = .ok (0, .int x) := by
  unfold eIx; rw [h]; simp only [hg, il_ix hx]
theorem ixi1_ok {f g : EB} {ss : En} {m n k : Nat} {xs : List Int} {x : Int} (h : f ss = .ok (n, il xs)) (hn : n ≤ 1) (hg : g ss = .ok (m, .int (k : Int))) (hx : xs[k]? = some x) : eIx f g ss = .ok (0, .int x) := by
  unfold eIx; rw [h]; simp only [hg, il_ix hx, show n - 1 = 0 by omega]
theorem test_ok {f : EB} {ss : En} {n : Nat} {b : Bool} (h : f ss = .ok (n, .bl b)) : eTest f ss = .ok b := by unfold eTest; rw [h]
theorem tnot_ok {t : ET} {ss : En} {b : Bool} (h : t ss = .ok b) : tyNot t ss = .ok (!b) := by unfold tyNot; rw [h]
theorem tand_t {t u : ET} {ss : En} (h : t ss = .ok true) : tyAnd t u ss = u ss := by unfold tyAnd; rw [h]
theorem tand_f {t u : ET} {ss : En} (h : t ss = .ok false) : tyAnd t u ss = .ok false := by unfold tyAnd; rw [h]
theorem tor_t {t u : ET} {ss : En} (h : t ss = .ok true) : tyOr t u ss = .ok true := by unfold tyOr; rw [h]
theorem tor_f {t u : ET} {ss : En} (h : t ss = .ok false) : tyOr t u ss = u ss := by unfold tyOr; rw [h]
theorem tand_ok {t u : ET} {ss : En} {a b : Bool} (h : t ss = .ok a) (hu : u ss = .ok b) : tyAnd t u ss = .ok (a && b) := by
  cases a with
  | true => rw [tand_t h, hu]; rfl
  | false => rw [tand_f h]; rfl
theorem tor_ok {t u : ET} {ss : En} {a b : Bool} (h : t ss = .ok a) (hu : u ss = .ok b) : tyOr t u ss = .ok (a || b) := by
  cases a with
  | true => rw [tor_t h]; rfl
  | false => rw [tor_f h, hu]; rfl
theorem op_ok {g : D → D → Option D} {f1 f2 : EB} {ss : En} {n m : Nat} {a b d : D} (h1 : f1 ss = .ok (n, a)) (h2 : f2 ss = .ok (m, b)) (hg : g a b = some d) : eOp g f1 f2 ss = .ok (0, d) := by unfold eOp; rw [h1]; simp only [h2, hg]
theorem un_ok {g : D → Option D} {f1 : EB} {ss : En} {n : Nat} {a d : D} (h1 : f1 ss = .ok (n, a)) (hg : g a = some d) : eUn g f1 ss = .ok (0, d) := by unfold eUn; rw [h1]; simp only [hg]
theorem call_ok {g : List D → Option D} {ga : EA} {ss : En} {ds : List D} {d : D} (h1 : ga ss = .ok ds) (hg : g ds = some d) : eCall g ga ss = .ok (0, d) := by unfold eCall; rw [h1]; simp only [hg]
theorem and_ok {f g : EB} {ss : En} {n m : Nat} {a b : Bool} (h1 : f ss = .ok (n, .bl a)) (h2 : g ss = .ok (m, .bl b)) : ∃ k, eAnd f g ss = .ok (k, .bl (a && b)) := by
  unfold eAnd; rw [h1]
  cases a with
  | true => exact ⟨m, by simp only [h2]; rfl⟩
  | false => exact ⟨0, rfl⟩
theorem and_ok0 {f g : EB} {ss : En} {n : Nat} {a b : Bool} (h1 : f ss = .ok (n, .bl a)) (h2 : g ss = .ok (0, .bl b)) : eAnd f g ss = .ok (0, .bl (a && b)) := by
  unfold eAnd; rw [h1]
  cases a with
  | true => simp only [h2]; rfl
  | false => rfl
theorem not_ok {f : EB} {ss : En} {n : Nat} {a : Bool} (h1 : f ss = .ok (n, .bl a)) : eNot f ss = .ok (0, .bl (!a)) := by unfold eNot; rw [h1]
theorem toInt_ok {f : EB} {ss : En} {n : Nat} {a : Int} (h : f ss = .ok (n, .int a)) : eCall gToInt (aCons f aNil) ss = .ok (0, .int a) := call_ok (aOne h) rfl
theorem step_eq {i : Nat} {F : SM} {d : D} {ss s1 : En} (h : ss.set i (.v 0 d) = s1) : stepF (tgName i) F d ss = F s1 := by subst h; rfl
theorem lg {i : Int} (h1 : -4611686018427387904 < i) (h2 : i < 4611686018427387904) : i.natAbs.log2 < 63 := by
  by_cases h : i.natAbs = 0
  · rw [h]; decide
  · rw [Nat.log2_lt h]
    have e : (2 : Nat) ^ 63 = 9223372036854775808 := by decide
    rw [e]; omega
theorem mul_ok {f1 f2 : EB} {ss : En} {n m : Nat} {a b : Int} (h1 : f1 ss = .ok (n, .int a)) (h2 : f2 ss = .ok (m, .int b)) (a1 : -4611686018427387904 < a) (a2 : a < 4611686018427387904) (b1 : -4611686018427387904 < b) (b2 : b < 4611686018427387904) : eOp gMul f1 f2 ss = .ok (0, .int (a * b)) := by
  refine op_ok h1 h2 ?_
  have x := lg a1 a2
  have y := lg b1 b2
  unfold gMul gIntC
  have d : decide (a.natAbs.log2 + b.natAbs.log2 < 1000000) = true := decide_eq_true (by omega)
  simp only [d, if_true]
theorem mod_ok {f1 f2 : EB} {ss : En} {n m : Nat} {a b : Int} (h1 : f1 ss = .ok (n, .int a)) (h2 : f2 ss = .ok (m, .int b)) (hb : 0 < b) : eOp gMod f1 f2 ss = .ok (0, .int (a % b)) := by
  refine op_ok h1 h2 ?_
  unfold gMod gIntC
  simp only [decide_eq_true hb, if_true]
theorem div_ok {f1 f2 : EB} {ss : En} {n m : Nat} {a b : Int} (h1 : f1 ss = .ok (n, .int a)) (h2 : f2 ss = .ok (m, .int b)) (hb : 0 < b) (hb2 : b < 4611686018427387904) : eOp gDiv f1 f2 ss = .ok (0, .int (a / b)) := by
  refine op_ok h1 h2 ?_
  have x := lg (i := b) (by omega) hb2
  unfold gDiv gIntC
  have d : decide (b.natAbs.log2 < 9000) = true := decide_eq_true (by omega)
  simp only [decide_eq_true hb, d, Bool.and_self, if_true]
theorem add_ok {f1 f2 : EB} {ss : En} {n m : Nat} {a b : Int} (h1 : f1 ss = .ok (n, .int a)) (h2 : f2 ss = .ok (m, .int b)) : eOp gAdd f1 f2 ss = .ok (0, .int (a + b)) := op_ok h1 h2 rfl
theorem sub_ok {f1 f2 : EB} {ss : En} {n m : Nat} {a b : Int} (h1 : f1 ss = .ok (n, .int a)) (h2 : f2 ss = .ok (m, .int b)) : eOp Mv.gSub f1 f2 ss = .ok (0, .int (a - b)) := op_ok h1 h2 rfl
theorem lt_ok {f1 f2 : EB} {ss : En} {n m : Nat} {a b : Int} (h1 : f1 ss = .ok (n, .int a)) (h2 : f2 ss = .ok (m, .int b)) : eOp gLt f1 f2 ss = .ok (0, .bl (decide (a < b))) := op_ok h1 h2 rfl
theorem gt_ok {f1 f2 : EB} {ss : En} {n m : Nat} {a b : Int} (h1 : f1 ss = .ok (n, .int a)) (h2 : f2 ss = .ok (m, .int b)) : eOp gGt f1 f2 ss = .ok (0, .bl (decide (b < a))) := op_ok h1 h2 rfl
theorem ge_ok {f1 f2 : EB} {ss : En} {n m : Nat} {a b : Int} (h1 : f1 ss = .ok (n, .int a)) (h2 : f2 ss = .ok (m, .int b)) : eOp gGe f1 f2 ss = .ok (0, .bl (decide (b ≤ a))) := op_ok h1 h2 rfl
theorem le_ok {f1 f2 : EB} {ss : En} {n m : Nat} {a b : Int} (h1 : f1 ss = .ok (n, .int a)) (h2 : f2 ss = .ok (m, .int b)) : eOp gLe f1 f2 ss = .ok (0, .bl (decide (a ≤ b))) := op_ok h1 h2 rfl
theorem eq_ok {f1 f2 : EB} {ss : En} {n m : Nat} {a b : Int} (h1 : f1 ss = .ok (n, .int a)) (h2 : f2 ss = .ok (m, .int b)) : eOp gEq f1 f2 ss = .ok (0, .bl (decide (a = b))) := op_ok h1 h2 (gEq_int a b)
theorem pow_ok {ss : En} {a : Int} {n : Nat} (hn : n ≤ 1000000) (ha : a.natAbs < 18446744073709551616) : eOp gPow (eC (.int a)) (eC (.int (n : Int))) ss = .ok (0, .int (a ^ n)) := by
  refine op_ok (n := 0) (m := 0) rfl rfl ?_
  unfold gPow gIntC
  have e : (2 : Nat) ^ 64 = 18446744073709551616 := by
    decide
  have d1 : decide (0 ≤ (n : Int)) = true := decide_eq_true (by omega)
  have d2 : decide ((n : Int) ≤ 1000000) = true := decide_eq_true (by omega)
  have d3 : decide (a.natAbs < 2 ^ 64) = true := decide_eq_true (by rw [e]; exact ha)
  simp only [d1, d2, d3, Bool.and_self, if_true, Int.toNat_natCast]
theorem c_ok {ss : En} {d : D} : eC d ss = .ok (0, d) := rfl
end Mv

namespace K13
open PySem L2 Mv

def top (i : Nat) : Stmt := PySem.Challenge.pw_foreworth_k13_prefixes_and_thin.main.body.getD i (.Pass ⟨0, 0, 0, 0⟩)
abbrev s_prefix_length : Stmt := top 24
abbrev s_prefixes : Stmt := top 25
abbrev s_is_complete : Stmt := top 26
abbrev s_latest_places : Stmt := top 27
abbrev s_is_needed : Stmt := top 28
abbrev s_thin : Stmt := top 29
abbrev s_law_cell : Stmt := top 31
abbrev s_law_digits : Stmt := top 32
abbrev s_law_seed : Stmt := top 33
abbrev s_law_prefix : Stmt := top 34
abbrev s_law_is_int : Stmt := top 35
abbrev s_law_ints : Stmt := top 36
abbrev s_law_whole : Stmt := top 37
abbrev s_law_symbol : Stmt := top 38
abbrev s_law_lists : Stmt := top 39
abbrev s_law_woven : Stmt := top 40
abbrev s_law_beats : Stmt := top 41
abbrev s_law_thinned : Stmt := top 42
abbrev s_law_is_incomplete : Stmt := top 43
abbrev s_law_lies : Stmt := top 44
abbrev s_law_told : Stmt := top 45
abbrev s_law : Stmt := top 46
/-- what the top has written -/
structure Txt (K : PySem.W.Frag) (mg : Str → Option Value) where
  a_prefix_length : Addr
  fd_prefix_length : FuncData
  F_prefix_length : Fun K "prefix_length" "prefix_length" s_prefix_length a_prefix_length fd_prefix_length
  k_prefix_length : PySem.W.keepIn K (.ref a_prefix_length) = true
  g_prefix_length : mg "prefix_length" = some (.ref a_prefix_length)
  b_prefix_length : Binds K fd_prefix_length ["run", "schedule"] []
  a_prefixes : Addr
  fd_prefixes : FuncData
  F_prefixes : Fun K "prefixes" "prefixes" s_prefixes a_prefixes fd_prefixes
  k_prefixes : PySem.W.keepIn K (.ref a_prefixes) = true
  g_prefixes : mg "prefixes" = some (.ref a_prefixes)
  b_prefixes : Binds K fd_prefixes ["runs", "schedule"] []
  a_is_complete : Addr
  fd_is_complete : FuncData
  F_is_complete : Fun K "is_complete" "is_complete" s_is_complete a_is_complete fd_is_complete
  k_is_complete : PySem.W.keepIn K (.ref a_is_complete) = true
  g_is_complete : mg "is_complete" = some (.ref a_is_complete)
  b_is_complete : Binds K fd_is_complete ["runs", "schedule"] []
  a_latest_places : Addr
  fd_latest_places : FuncData
  F_latest_places : Fun K "latest_places" "latest_places" s_latest_places a_latest_places fd_latest_places
  k_latest_places : PySem.W.keepIn K (.ref a_latest_places) = true
  g_latest_places : mg "latest_places" = some (.ref a_latest_places)
  b_latest_places : Binds K fd_latest_places ["run", "schedule"] []
  a_is_needed : Addr
  fd_is_needed : FuncData
  F_is_needed : Fun K "is_needed" "is_needed" s_is_needed a_is_needed fd_is_needed
  k_is_needed : PySem.W.keepIn K (.ref a_is_needed) = true
  g_is_needed : mg "is_needed" = some (.ref a_is_needed)
  b_is_needed : Binds K fd_is_needed ["done", "latest", "index"] []
  a_thin : Addr
  fd_thin : FuncData
  F_thin : Fun K "thin" "thin" s_thin a_thin fd_thin
  k_thin : PySem.W.keepIn K (.ref a_thin) = true
  g_thin : mg "thin" = some (.ref a_thin)
  b_thin : Binds K fd_thin ["runs", "schedule"] []
  a_law_cell : Addr
  fd_law_cell : FuncData
  F_law_cell : Fun K "_law_cell" "_law_cell" s_law_cell a_law_cell fd_law_cell
  k_law_cell : PySem.W.keepIn K (.ref a_law_cell) = true
  g_law_cell : mg "_law_cell" = some (.ref a_law_cell)
  b_law_cell : Binds K fd_law_cell ["_law_script", "_law_k"] []
  a_law_digits : Addr
  fd_law_digits : FuncData
  F_law_digits : Fun K "_law_digits" "_law_digits" s_law_digits a_law_digits fd_law_digits
  k_law_digits : PySem.W.keepIn K (.ref a_law_digits) = true
  g_law_digits : mg "_law_digits" = some (.ref a_law_digits)
  b_law_digits : Binds K fd_law_digits ["_law_cell_here", "_law_count", "_law_size"] []
  a_law_seed : Addr
  fd_law_seed : FuncData
  F_law_seed : Fun K "_law_seed" "_law_seed" s_law_seed a_law_seed fd_law_seed
  k_law_seed : PySem.W.keepIn K (.ref a_law_seed) = true
  g_law_seed : mg "_law_seed" = some (.ref a_law_seed)
  b_law_seed : Binds K fd_law_seed ["_law_script", "_law_k"] []
  a_law_prefix : Addr
  fd_law_prefix : FuncData
  F_law_prefix : Fun K "_law_prefix" "_law_prefix" s_law_prefix a_law_prefix fd_law_prefix
  k_law_prefix : PySem.W.keepIn K (.ref a_law_prefix) = true
  g_law_prefix : mg "_law_prefix" = some (.ref a_law_prefix)
  b_law_prefix : Binds K fd_law_prefix ["_law_run", "_law_schedule"] []
  a_law_is_int : Addr
  fd_law_is_int : FuncData
  F_law_is_int : Fun K "_law_is_int" "_law_is_int" s_law_is_int a_law_is_int fd_law_is_int
  k_law_is_int : PySem.W.keepIn K (.ref a_law_is_int) = true
  g_law_is_int : mg "_law_is_int" = some (.ref a_law_is_int)
  b_law_is_int : Binds K fd_law_is_int ["_law_value"] []
  a_law_ints : Addr
  fd_law_ints : FuncData
  F_law_ints : Fun K "_law_ints" "_law_ints" s_law_ints a_law_ints fd_law_ints
  k_law_ints : PySem.W.keepIn K (.ref a_law_ints) = true
  g_law_ints : mg "_law_ints" = some (.ref a_law_ints)
  b_law_ints : Binds K fd_law_ints ["_law_row"] []
  a_law_whole : Addr
  fd_law_whole : FuncData
  F_law_whole : Fun K "_law_whole" "_law_whole" s_law_whole a_law_whole fd_law_whole
  k_law_whole : PySem.W.keepIn K (.ref a_law_whole) = true
  g_law_whole : mg "_law_whole" = some (.ref a_law_whole)
  b_law_whole : Binds K fd_law_whole ["_law_runs", "_law_schedule"] []
  a_law_symbol : Addr
  fd_law_symbol : FuncData
  F_law_symbol : Fun K "_law_symbol" "_law_symbol" s_law_symbol a_law_symbol fd_law_symbol
  k_law_symbol : PySem.W.keepIn K (.ref a_law_symbol) = true
  g_law_symbol : mg "_law_symbol" = some (.ref a_law_symbol)
  b_law_symbol : Binds K fd_law_symbol ["_law_turn", "_law_digit"] []
  a_law_lists : Addr
  fd_law_lists : FuncData
  F_law_lists : Fun K "_law_lists" "_law_lists" s_law_lists a_law_lists fd_law_lists
  k_law_lists : PySem.W.keepIn K (.ref a_law_lists) = true
  g_law_lists : mg "_law_lists" = some (.ref a_law_lists)
  b_law_lists : Binds K fd_law_lists ["_law_script", "_law_turn"] []
  a_law_woven : Addr
  fd_law_woven : FuncData
  F_law_woven : Fun K "_law_woven" "_law_woven" s_law_woven a_law_woven fd_law_woven
  k_law_woven : PySem.W.keepIn K (.ref a_law_woven) = true
  g_law_woven : mg "_law_woven" = some (.ref a_law_woven)
  b_law_woven : Binds K fd_law_woven ["_law_lists_here", "_law_extra", "_law_cell_here"] []
  a_law_beats : Addr
  fd_law_beats : FuncData
  F_law_beats : Fun K "_law_beats" "_law_beats" s_law_beats a_law_beats fd_law_beats
  k_law_beats : PySem.W.keepIn K (.ref a_law_beats) = true
  g_law_beats : mg "_law_beats" = some (.ref a_law_beats)
  b_law_beats : Binds K fd_law_beats ["_law_script", "_law_lists_here", "_law_turn"] []
  a_law_thinned : Addr
  fd_law_thinned : FuncData
  F_law_thinned : Fun K "_law_thinned" "_law_thinned" s_law_thinned a_law_thinned fd_law_thinned
  k_law_thinned : PySem.W.keepIn K (.ref a_law_thinned) = true
  g_law_thinned : mg "_law_thinned" = some (.ref a_law_thinned)
  b_law_thinned : Binds K fd_law_thinned ["_law_lists_here", "_law_beats_here"] []
  a_law_is_incomplete : Addr
  fd_law_is_incomplete : FuncData
  F_law_is_incomplete : Fun K "_law_is_incomplete" "_law_is_incomplete" s_law_is_incomplete a_law_is_incomplete fd_law_is_incomplete
  k_law_is_incomplete : PySem.W.keepIn K (.ref a_law_is_incomplete) = true
  g_law_is_incomplete : mg "_law_is_incomplete" = some (.ref a_law_is_incomplete)
  b_law_is_incomplete : Binds K fd_law_is_incomplete ["_law_e"] []
  a_law_lies : Addr
  fd_law_lies : FuncData
  F_law_lies : Fun K "_law_lies" "_law_lies" s_law_lies a_law_lies fd_law_lies
  k_law_lies : PySem.W.keepIn K (.ref a_law_lies) = true
  g_law_lies : mg "_law_lies" = some (.ref a_law_lies)
  b_law_lies : Binds K fd_law_lies ["_law_lists_here", "_law_beats_here"] []
  a_law_told : Addr
  fd_law_told : FuncData
  F_law_told : Fun K "_law_told" "_law_told" s_law_told a_law_told fd_law_told
  k_law_told : PySem.W.keepIn K (.ref a_law_told) = true
  g_law_told : mg "_law_told" = some (.ref a_law_told)
  b_law_told : Binds K fd_law_told ["_law_lists_here", "_law_beats_here"] []
  a_law : Addr
  fd_law : FuncData
  F_law : Fun K "law" "law" s_law a_law fd_law
  k_law : PySem.W.keepIn K (.ref a_law) = true
  g_law : mg "law" = some (.ref a_law)
  b_law : Binds K fd_law ["_law_script"] []
  z_len : mg "len" = none
  z_abs : mg "abs" = none
  z_int : mg "int" = none
  z_list : mg "list" = none
  z_range : mg "range" = none
  z_max : mg "max" = none
  z_isinstance : mg "isinstance" = none
  z_bool : mg "bool" = none
  z_ValueError : mg "ValueError" = none
  a_BadChange : Addr
  g_BadChange : mg "BadChange" = some (.ref a_BadChange)
  a_BadDoors : Addr
  g_BadDoors : mg "BadDoors" = some (.ref a_BadDoors)
  a_BadNode : Addr
  g_BadNode : mg "BadNode" = some (.ref a_BadNode)
  a_BadOrder : Addr
  g_BadOrder : mg "BadOrder" = some (.ref a_BadOrder)
  a_BadRing : Addr
  g_BadRing : mg "BadRing" = some (.ref a_BadRing)
  a_BadRun : Addr
  g_BadRun : mg "BadRun" = some (.ref a_BadRun)
  a_BadStart : Addr
  g_BadStart : mg "BadStart" = some (.ref a_BadStart)
  a_BadStay : Addr
  g_BadStay : mg "BadStay" = some (.ref a_BadStay)
  a_BadWord : Addr
  g_BadWord : mg "BadWord" = some (.ref a_BadWord)
  a_BareLoop : Addr
  g_BareLoop : mg "BareLoop" = some (.ref a_BareLoop)
  a_DeskError : Addr
  g_DeskError : mg "DeskError" = some (.ref a_DeskError)
  a_ForeworthError : Addr
  g_ForeworthError : mg "ForeworthError" = some (.ref a_ForeworthError)
  a_Incomplete : Addr
  g_Incomplete : mg "Incomplete" = some (.ref a_Incomplete)
  a_MixedGraphs : Addr
  g_MixedGraphs : mg "MixedGraphs" = some (.ref a_MixedGraphs)
  a_NoEnd : Addr
  g_NoEnd : mg "NoEnd" = some (.ref a_NoEnd)
  a_NoWild : Addr
  g_NoWild : mg "NoWild" = some (.ref a_NoWild)
  a_NotOver : Addr
  g_NotOver : mg "NotOver" = some (.ref a_NotOver)
  a_NotStanding : Addr
  g_NotStanding : mg "NotStanding" = some (.ref a_NotStanding)
  a_TextError : Addr
  g_TextError : mg "TextError" = some (.ref a_TextError)
  a_TooLarge : Addr
  g_TooLarge : mg "TooLarge" = some (.ref a_TooLarge)
  a_Unreachable : Addr
  g_Unreachable : mg "Unreachable" = some (.ref a_Unreachable)
  a_WildProgram : Addr
  g_WildProgram : mg "WildProgram" = some (.ref a_WildProgram)
  k_Incomplete : PySem.W.keepIn K (.ref a_Incomplete) = true
  q_Incomplete : PySem.W.excIn K a_Incomplete [.type "ValueError", .type "Exception", .type "BaseException", .type "object"] "ValueError.__new__" = true
  sb_Incomplete : PySem.W.subIn K (.ref a_Incomplete) (.type "BaseException") = some true
  ty_Incomplete : PySem.W.typeIn K (.ref a_Incomplete) = some (.type "type")
  ec_Incomplete : ExcC K a_Incomplete
  em_Incomplete_ForeworthError : PySem.W.exmOne K (.ref a_Incomplete) (.ref a_ForeworthError) = some true
  ia_Incomplete_0 : PySem.W.kitAny K (.ref a_Incomplete) [.ref a_BadNode, .ref a_Unreachable, .ref a_NoEnd, .ref a_BadRing, .ref a_TextError, .ref a_BareLoop, .ref a_BadStart, .ref a_BadRun, .ref a_NotStanding] = some false
  ia_Incomplete_1 : PySem.W.kitAny K (.ref a_Incomplete) [.ref a_BadStay, .ref a_TooLarge, .ref a_WildProgram, .ref a_NoWild, .ref a_BadWord, .ref a_BadChange, .ref a_BadDoors, .ref a_BadOrder, .ref a_MixedGraphs] = some false
  ia_Incomplete_2 : PySem.W.kitAny K (.ref a_Incomplete) [.ref a_NotOver, .ref a_DeskError] = some false
  ia_Incomplete_3 : PySem.W.kitAny K (.ref a_Incomplete) [.type "ValueError"] = some true
  ia_Incomplete_4 : PySem.W.kitAny K (.ref a_Incomplete) [.ref a_Incomplete] = some true
section
variable {P : Program} {w : World} {K : PySem.W.Frag} {base : Heap} {mg : Str → Option Value}
/-! ### prefix_length -/
theorem sc_prefix_length : FnScope ["run", "schedule", "done", "node"] ["run", "schedule"] (defScope s_prefix_length) := ⟨rfl, rfl, rfl, by decide +kernel, rfl, by decide +kernel, by decide +kernel⟩
noncomputable def c_prefix_length_1 : SM :=
  (sIf (tyAnd (eTest (eOp gLt (eVar 2) (eCall gLen (aCons (eVar 0) aNil)))) (eTest (eOp gEq (eIx (eVar 0) (eVar 2)) (eVar 3))))
  (sAsg 2 (own0 (eOp gAdd (eVar 2) (eC (.int 1)))))
  sNext)
noncomputable def c_prefix_length : SM :=
  (sSeq (sAsg 2 (own0 (eC (.int 0))))
  (sSeq (sFrz 1 (sFor (iSeq (eVar 1)) (tgName 3) c_prefix_length_1))
  (sRetV 2)))
noncomputable def m_prefix_length : FM := fnM 2 4 c_prefix_length
theorem ok_prefix_length (T : Txt K mg) : FnOk P w K mg base (L2N.CX P w) 1 T.a_prefix_length T.fd_prefix_length ["run", "schedule"] (spM K m_prefix_length) :=
  fn_okM (k := 0) (F := c_prefix_length) 2 4 rfl rfl T.F_prefix_length sc_prefix_length fun cdv A outer s H E hr => by
    unfold c_prefix_length c_prefix_length_1
    exact (ss_cons (s_set (i := 2) sc_prefix_length.nd rfl (Or.inl rfl) (m_of_b b_int))
    (ss_cons (s_frz 1 (s_for passes_cx rfl (i_list (b_var 1)) (pg_name (i := 3) sc_prefix_length.nd rfl (Or.inl rfl)) tg_name (ss_one (s_if (PW.pt (w_and (t_cmp op_lt ok_lt (b_var 2) (b_len (by rfl) T.z_len (ah_cons (b_var 0) ah_nil)) (nomark _)) (w_and1 (t_cmp (op_eqA (units_cx hr)) ok_eq (b_ix (b_var 0) (b_var 2)) (b_var 3) (nomark _))))) (ss_one (s_set (i := 2) sc_prefix_length.nd rfl (Or.inl rfl) (m_of_b (b_add (b_var 2) b_int)))) ss_nil))))
    (ss_one (s_retV 2))))
/-! ### prefixes -/
theorem sc_prefixes : FnScope ["runs", "schedule", "run"] ["runs", "schedule"] (defScope s_prefixes) := ⟨rfl, rfl, rfl, by decide +kernel, rfl, by decide +kernel, by decide +kernel⟩
noncomputable def c_prefixes : SM :=
  (sFrz 0 (sRet (eLc [2] (iSeq (eVar 0)) (tgName 2) tcYes (eFnF m_prefix_length (aCons (eVar 2) (aCons (eVar 1) aNil))))))
noncomputable def m_prefixes : FM := fnM 2 3 c_prefixes
theorem ok_prefixes (T : Txt K mg) : FnOk P w K mg base (L2N.CX P w) 2 T.a_prefixes T.fd_prefixes ["runs", "schedule"] (spM K m_prefixes) :=
  fn_okM (k := 1) (F := c_prefixes) 2 3 rfl rfl T.F_prefixes sc_prefixes fun cdv A outer s H E hr => by
    unfold c_prefixes 
    exact (ss_one (s_frz 0 (s_ret (m_lc (own := [("run", 2)]) rfl sc_prefixes.nd (i_list (b_var 0)) (blkOk_by (N := ["runs", "schedule", "run"]) (sc := defScope s_prefixes) (own := [("run", 2)]) (by decide +kernel)) (tw_name (by decide)) (fun _ _ _ _ _ => (pg_name (i := 2) sc_prefixes.nd rfl (Or.inl rfl))) (fun _ _ _ _ _ => c_nil) (fun _ _ _ _ _ => (b_callF (ok_prefix_length T) takesN0 (hr.mono (by decide)) (by rfl) T.g_prefix_length T.k_prefix_length T.b_prefix_length (ah_cons (b_var 2) (ah_cons (b_var 1) ah_nil))))))))
/-! ### is_complete -/
theorem sc_is_complete : FnScope ["runs", "schedule", "run"] ["runs", "schedule"] (defScope s_is_complete) := ⟨rfl, rfl, rfl, by decide +kernel, rfl, by decide +kernel, by decide +kernel⟩
noncomputable def c_is_complete_1 : SM :=
  (sIf (eTest (eOp gLt (eFnF m_prefix_length (aCons (eVar 2) (aCons (eVar 1) aNil))) (eCall gLen (aCons (eVar 2) aNil))))
  (sRet (own0 (eC (.bl false))))
  sNext)
noncomputable def c_is_complete : SM :=
  (sSeq (sFrz 0 (sFor (iSeq (eVar 0)) (tgName 2) c_is_complete_1))
  (sRet (own0 (eC (.bl true)))))
noncomputable def m_is_complete : FM := fnM 2 3 c_is_complete
theorem ok_is_complete (T : Txt K mg) : FnOk P w K mg base (L2N.CX P w) 2 T.a_is_complete T.fd_is_complete ["runs", "schedule"] (spM K m_is_complete) :=
  fn_okM (k := 1) (F := c_is_complete) 2 3 rfl rfl T.F_is_complete sc_is_complete fun cdv A outer s H E hr => by
    unfold c_is_complete c_is_complete_1
    exact (ss_cons (s_frz 0 (s_for passes_cx rfl (i_list (b_var 0)) (pg_name (i := 2) sc_is_complete.nd rfl (Or.inl rfl)) tg_name (ss_one (s_if (t_cmp op_lt ok_lt (b_callF (ok_prefix_length T) takes_cx (hr.mono (by decide)) (by rfl) T.g_prefix_length T.k_prefix_length T.b_prefix_length (ah_cons (b_var 2) (ah_cons (b_var 1) ah_nil))) (b_len (by rfl) T.z_len (ah_cons (b_var 2) ah_nil)) (nomark _)) (ss_one (s_ret (m_of_b b_bl))) ss_nil))))
    (ss_one (s_ret (m_of_b b_bl))))
/-! ### latest_places -/
theorem sc_latest_places : FnScope ["run", "schedule", "places", "left", "back", "index"] ["run", "schedule"] (defScope s_latest_places) := ⟨rfl, rfl, rfl, by decide +kernel, rfl, by decide +kernel, by decide +kernel⟩
noncomputable def c_latest_places_1 : SM :=
  (sSeq (sAsg 5 (own0 (eOp Mv.gSub (eOp Mv.gSub (eCall gLen (aCons (eVar 1) aNil)) (eC (.int 1))) (eVar 4))))
  (sIf (tyAnd (eTest (eOp gGt (eVar 3) (eC (.int 0)))) (eTest (eOp gEq (eIx (eVar 0) (eOp Mv.gSub (eVar 3) (eC (.int 1)))) (eIx (eVar 1) (eVar 5)))))
  (sSeq (sAsg 3 (own0 (eOp Mv.gSub (eVar 3) (eC (.int 1)))))
  (sSetI 2 (eVar 3) (own0 (eVar 5))))
  sNext))
noncomputable def c_latest_places : SM :=
  (sSeq (sAsg 2 (eRep (frzE (eLst (a0Cons (eC (.int 0)) aNil))) (eCall gLen (aCons (eVar 0) aNil))))
  (sSeq (sAsg 3 (own0 (eCall gLen (aCons (eVar 0) aNil))))
  (sSeq (sFor (iRg1 (aCons (eCall gLen (aCons (eVar 1) aNil)) aNil)) (tgName 4) c_latest_places_1)
  (sRetV 2))))
noncomputable def m_latest_places : FM := fnM 2 6 c_latest_places
theorem ok_latest_places (T : Txt K mg) : FnOk P w K mg base (L2N.CX P w) 1 T.a_latest_places T.fd_latest_places ["run", "schedule"] (spM K m_latest_places) :=
  fn_okM (k := 0) (F := c_latest_places) 2 6 rfl rfl T.F_latest_places sc_latest_places fun cdv A outer s H E hr => by
    unfold c_latest_places c_latest_places_1
    exact (ss_cons (s_set (i := 2) sc_latest_places.nd rfl (Or.inl rfl) (m_rep (b_of_m (m_lst (a_cons b_int a_nil))) (b_len (by rfl) T.z_len (ah_cons (b_var 0) ah_nil))))
    (ss_cons (s_set (i := 3) sc_latest_places.nd rfl (Or.inl rfl) (m_of_b (b_len (by rfl) T.z_len (ah_cons (b_var 0) ah_nil))))
    (ss_cons (s_for passes_cx rfl (i_range1 (by rfl) T.z_range (ah_cons (b_len (by rfl) T.z_len (ah_cons (b_var 1) ah_nil)) ah_nil)) (pg_name (i := 4) sc_latest_places.nd rfl (Or.inl rfl)) tg_name (ss_cons (s_set (i := 5) sc_latest_places.nd rfl (Or.inl rfl) (m_of_b (b_sub (b_sub (b_len (by rfl) T.z_len (ah_cons (b_var 1) ah_nil)) b_int) (b_var 4))))
    (ss_one (s_if (PW.pt (w_and (t_cmp op_gt ok_gt (b_var 3) b_int (nomark _)) (w_and1 (t_cmp (op_eqA (units_cx hr)) ok_eq (b_ix (b_var 0) (b_sub (b_var 3) b_int)) (b_ix (b_var 1) (b_var 5)) (nomark _))))) (ss_cons (s_set (i := 3) sc_latest_places.nd rfl (Or.inl rfl) (m_of_b (b_sub (b_var 3) b_int)))
    (ss_one (s_setI 2 (m_of_b (b_var 5)) (b_var 3)))) ss_nil))))
    (ss_one (s_retV 2)))))
/-! ### is_needed -/
theorem sc_is_needed : FnScope ["done", "latest", "index", "lane"] ["done", "latest", "index"] (defScope s_is_needed) := ⟨rfl, rfl, rfl, by decide +kernel, rfl, by decide +kernel, by decide +kernel⟩
noncomputable def c_is_needed_1 : SM :=
  (sIf (tyAnd (eTest (eOp gLt (eIx (eVar 0) (eVar 3)) (eCall gLen (aCons (eIx (eVar 1) (eVar 3)) aNil)))) (eTest (eOp gLe (eIx (eIx (eVar 1) (eVar 3)) (eIx (eVar 0) (eVar 3))) (eVar 2))))
  (sRet (own0 (eC (.bl true))))
  sNext)
noncomputable def c_is_needed : SM :=
  (sSeq (sFor (iRg1 (aCons (eCall gLen (aCons (eVar 0) aNil)) aNil)) (tgName 3) c_is_needed_1)
  (sRet (own0 (eC (.bl false)))))
noncomputable def m_is_needed : FM := fnM 3 4 c_is_needed
theorem ok_is_needed (T : Txt K mg) : FnOk P w K mg base (L2N.CX P w) 1 T.a_is_needed T.fd_is_needed ["done", "latest", "index"] (spM K m_is_needed) :=
  fn_okM (k := 0) (F := c_is_needed) 3 4 rfl rfl T.F_is_needed sc_is_needed fun cdv A outer s H E hr => by
    unfold c_is_needed c_is_needed_1
    exact (ss_cons (s_for passes_cx rfl (i_range1 (by rfl) T.z_range (ah_cons (b_len (by rfl) T.z_len (ah_cons (b_var 0) ah_nil)) ah_nil)) (pg_name (i := 3) sc_is_needed.nd rfl (Or.inl rfl)) tg_name (ss_one (s_if (PW.pt (w_and (t_cmp op_lt ok_lt (b_ix (b_var 0) (b_var 3)) (b_len (by rfl) T.z_len (ah_cons (b_ix (b_var 1) (b_var 3)) ah_nil)) (nomark _)) (w_and1 (t_cmp op_le ok_le (b_ix (b_ix (b_var 1) (b_var 3)) (b_ix (b_var 0) (b_var 3))) (b_var 2) (nomark _))))) (ss_one (s_ret (m_of_b b_bl))) ss_nil)))
    (ss_one (s_ret (m_of_b b_bl))))
/-! ### thin -/
theorem sc_thin : FnScope ["runs", "schedule", "latest", "done", "kept", "index", "lane", "run"] ["runs", "schedule"] (defScope s_thin) := ⟨rfl, rfl, rfl, by decide +kernel, rfl, by decide +kernel, by decide +kernel⟩
noncomputable def c_thin_1 (T : Txt K mg) : SM :=
  (sIf (tyAnd (eTest (eOp gLt (eIx (eVar 3) (eVar 6)) (eCall gLen (aCons (eIx (eVar 0) (eVar 6)) aNil)))) (eTest (eOp gEq (eIx (eIx (eVar 0) (eVar 6)) (eIx (eVar 3) (eVar 6))) (eIx (eVar 1) (eVar 5)))))
  (sSetI 3 (eVar 6) (own0 (eOp gAdd (eIx (eVar 3) (eVar 6)) (eC (.int 1)))))
  sNext)
noncomputable def c_thin_2 (T : Txt K mg) : SM :=
  (sIf (eTest (eFnF m_is_needed (aCons (eVar 3) (aCons (eVar 2) (aCons (eVar 5) aNil)))))
  (sSeq (sApp 4 (own0 (eIx (eVar 1) (eVar 5))))
  (sFor (iRg1 (aCons (eCall gLen (aCons (eVar 0) aNil)) aNil)) (tgName 6) (c_thin_1 T)))
  sNext)
noncomputable def c_thin (T : Txt K mg) : SM :=
  (sSeq (sIf (tyNot (eTest (eFnF m_is_complete (aCons (eVar 0) (aCons (eVar 1) aNil)))))
  (sRaise ⟨T.a_Incomplete, none⟩)
  sNext)
  (sSeq (sFrz 1 (sFrz 7 (sFrz 0 (sAsg 2 (eLc [7] (iSeq (eVar 0)) (tgName 7) tcYes (frzE (eFn m_latest_places (a0Cons (eVar 7) (a0Cons (eVar 1) aNil)))))))))
  (sSeq (sAsg 3 (eRep (frzE (eLst (a0Cons (eC (.int 0)) aNil))) (eCall gLen (aCons (eVar 0) aNil))))
  (sSeq (sAsg 4 (eLst aNil))
  (sSeq (sFor (iRg1 (aCons (eCall gLen (aCons (eVar 1) aNil)) aNil)) (tgName 5) (c_thin_2 T))
  (sRetV 4))))))
noncomputable def m_thin (T : Txt K mg) : FM := fnM 2 8 (c_thin T)
theorem ok_thin (T : Txt K mg) : FnOk P w K mg base (L2N.CX P w) 3 T.a_thin T.fd_thin ["runs", "schedule"] (spM K (m_thin T)) :=
  fn_okM (k := 2) (F := (c_thin T)) 2 8 rfl rfl T.F_thin sc_thin fun cdv A outer s H E hr => by
    unfold c_thin c_thin_2 c_thin_1
    exact (ss_cons (s_if (t_not (t_val (b_callF (ok_is_complete T) takes_cx (hr.mono (by decide)) (by rfl) T.g_is_complete T.k_is_complete T.b_is_complete (ah_cons (b_var 0) (ah_cons (b_var 1) ah_nil))))) (ss_one (s_raise0 rfl takes_cx PySem.F.excBase_ValueError T.q_Incomplete T.g_Incomplete T.k_Incomplete T.sb_Incomplete T.ty_Incomplete (by rfl))) ss_nil)
    (ss_cons (s_frz 1 (s_frz 7 (s_frz 0 (s_setLc (own := [("run", 7)]) (i := 2) rfl sc_thin.nd rfl rfl (sw_true rfl rfl rfl (by decide +kernel)) (i_list (b_var 0)) (blkOk_by (N := ["runs", "schedule", "latest", "done", "kept", "index", "lane", "run"]) (sc := defScope s_thin) (own := [("run", 7)]) (by decide +kernel)) (tw_name (by decide)) (fun _ _ _ _ _ => (pg_name (i := 7) sc_thin.nd rfl (Or.inl rfl))) (fun _ _ _ _ _ => c_nil) (fun _ _ _ _ _ => (b_of_m (m_call (ok_latest_places T) takesN0 (hr.mono (by decide)) (by rfl) T.g_latest_places T.k_latest_places T.b_latest_places (a_cons (b_var 7) (a_cons (b_var 1) a_nil)))))))))
    (ss_cons (s_set (i := 3) sc_thin.nd rfl (Or.inl rfl) (m_rep (b_of_m (m_lst (a_cons b_int a_nil))) (b_len (by rfl) T.z_len (ah_cons (b_var 0) ah_nil))))
    (ss_cons (s_set (i := 4) sc_thin.nd rfl (Or.inl rfl) (m_lst a_nil))
    (ss_cons (s_for passes_cx rfl (i_range1 (by rfl) T.z_range (ah_cons (b_len (by rfl) T.z_len (ah_cons (b_var 1) ah_nil)) ah_nil)) (pg_name (i := 5) sc_thin.nd rfl (Or.inl rfl)) tg_name (ss_one (s_if (t_val (b_callF (ok_is_needed T) takes_cx (hr.mono (by decide)) (by rfl) T.g_is_needed T.k_is_needed T.b_is_needed (ah_cons (b_var 3) (ah_cons (b_var 2) (ah_cons (b_var 5) ah_nil))))) (ss_cons (s_app 4 (m_of_b (b_ix (b_var 1) (b_var 5))))
    (ss_one (s_for passes_cx rfl (i_range1 (by rfl) T.z_range (ah_cons (b_len (by rfl) T.z_len (ah_cons (b_var 0) ah_nil)) ah_nil)) (pg_name (i := 6) sc_thin.nd rfl (Or.inl rfl)) tg_name (ss_one (s_if (PW.pt (w_and (t_cmp op_lt ok_lt (b_ix (b_var 3) (b_var 6)) (b_len (by rfl) T.z_len (ah_cons (b_ix (b_var 0) (b_var 6)) ah_nil)) (nomark _)) (w_and1 (t_cmp (op_eqA (units_cx hr)) ok_eq (b_ix (b_ix (b_var 0) (b_var 6)) (b_ix (b_var 3) (b_var 6))) (b_ix (b_var 1) (b_var 5)) (nomark _))))) (ss_one (s_setI 3 (m_of_b (b_add (b_ix (b_var 3) (b_var 6)) b_int)) (b_var 6))) ss_nil))))) ss_nil)))
    (ss_one (s_retV 4)))))))
/-! ### _law_cell -/
theorem sc_law_cell : FnScope ["_law_script", "_law_k"] ["_law_script", "_law_k"] (defScope s_law_cell) := ⟨rfl, rfl, rfl, by decide +kernel, rfl, by decide +kernel, by decide +kernel⟩
noncomputable def c_law_cell : SM :=
  (sSeq (sIf (eTest (eOp gLt (eVar 1) (eCall gLen (aCons (eVar 0) aNil))))
  (sRet (own0 (eCall gAbs (aCons (eIx (eVar 0) (eVar 1)) aNil))))
  sNext)
  (sRet (own0 (eC (.int 0)))))
noncomputable def m_law_cell : FM := fnM 2 2 c_law_cell
theorem ok_law_cell (T : Txt K mg) : FnOk P w K mg base (L2N.CX P w) 1 T.a_law_cell T.fd_law_cell ["_law_script", "_law_k"] (spM K m_law_cell) :=
  fn_okM (k := 0) (F := c_law_cell) 2 2 rfl rfl T.F_law_cell sc_law_cell fun cdv A outer s H E hr => by
    unfold c_law_cell 
    exact (ss_cons (s_if (t_cmp op_lt ok_lt (b_var 1) (b_len (by rfl) T.z_len (ah_cons (b_var 0) ah_nil)) (nomark _)) (ss_one (s_ret (m_of_b (b_abs (by rfl) T.z_abs (ah_cons (b_ix (b_var 0) (b_var 1)) ah_nil))))) ss_nil)
    (ss_one (s_ret (m_of_b b_int))))
/-! ### _law_digits -/
theorem sc_law_digits : FnScope ["_law_cell_here", "_law_count", "_law_size", "_law_row", "_law_rest", "_law_k", "_law_mixed"] ["_law_cell_here", "_law_count", "_law_size"] (defScope s_law_digits) := ⟨rfl, rfl, rfl, by decide +kernel, rfl, by decide +kernel, by decide +kernel⟩
noncomputable def c_law_digits_1 : SM :=
  (sIf (tyAnd (eTest (eOp gGe (eVar 0) (eOp gPow (eC (.int 10)) (eC (.int 18))))) (eTest (eOp gGt (eVar 4) (eC (.int 0)))))
  (sSeq (sApp 3 (own0 (eOp gMod (eCall gToInt (aCons (eVar 4) aNil)) (eVar 2))))
  (sAsg 4 (own0 (eOp gDiv (eVar 4) (eVar 2)))))
  (sSeq (sAsg 6 (own0 (eOp gMod (eCall gToInt (aCons (eOp gAdd (eOp gAdd (eVar 0) (eOp gMul (eC (.int 7919)) (eVar 5))) (eC (.int 13))) aNil)) (eC (.int 2147483647)))))
  (sSeq (sAsg 6 (own0 (eOp gMod (eCall gToInt (aCons (eOp gMul (eVar 6) (eOp gAdd (eVar 6) (eC (.int 48271)))) aNil)) (eC (.int 2147483629)))))
  (sSeq (sAsg 6 (own0 (eOp gMod (eCall gToInt (aCons (eOp gAdd (eOp gMul (eVar 6) (eOp gAdd (eVar 6) (eC (.int 69621)))) (eOp gMul (eC (.int 31)) (eVar 5))) aNil)) (eC (.int 2147483647)))))
  (sApp 3 (own0 (eOp gMod (eCall gToInt (aCons (eOp gDiv (eVar 6) (eC (.int 9))) aNil)) (eVar 2))))))))
noncomputable def c_law_digits : SM :=
  (sSeq (sAsg 3 (eLst aNil))
  (sSeq (sAsg 4 (own0 (eVar 0)))
  (sSeq (sFor (iRg1 (aCons (eVar 1) aNil)) (tgName 5) c_law_digits_1)
  (sRetV 3))))
noncomputable def m_law_digits : FM := fnM 3 7 c_law_digits
theorem ok_law_digits (T : Txt K mg) : FnOk P w K mg base (L2N.CX P w) 1 T.a_law_digits T.fd_law_digits ["_law_cell_here", "_law_count", "_law_size"] (spM K m_law_digits) :=
  fn_okM (k := 0) (F := c_law_digits) 3 7 rfl rfl T.F_law_digits sc_law_digits fun cdv A outer s H E hr => by
    unfold c_law_digits c_law_digits_1
    exact (ss_cons (s_set (i := 3) sc_law_digits.nd rfl (Or.inl rfl) (m_lst a_nil))
    (ss_cons (s_set (i := 4) sc_law_digits.nd rfl (Or.inl rfl) (m_of_b (b_var 0)))
    (ss_cons (s_for passes_cx rfl (i_range1 (by rfl) T.z_range (ah_cons (b_var 1) ah_nil)) (pg_name (i := 5) sc_law_digits.nd rfl (Or.inl rfl)) tg_name (ss_one (s_if (PW.pt (w_and (t_cmp op_ge ok_ge (b_var 0) (b_pow b_int b_int) (nomark _)) (w_and1 (t_cmp op_gt ok_gt (b_var 4) b_int (nomark _))))) (ss_cons (s_app 3 (m_of_b (b_mod (b_toInt (by rfl) T.z_int (ah_cons (b_var 4) ah_nil)) (b_var 2))))
    (ss_one (s_set (i := 4) sc_law_digits.nd rfl (Or.inl rfl) (m_of_b (b_div (b_var 4) (b_var 2)))))) (ss_cons (s_set (i := 6) sc_law_digits.nd rfl (Or.inl rfl) (m_of_b (b_mod (b_toInt (by rfl) T.z_int (ah_cons (b_add (b_add (b_var 0) (b_mul b_int (b_var 5))) b_int) ah_nil)) b_int)))
    (ss_cons (s_set (i := 6) sc_law_digits.nd rfl (Or.inl rfl) (m_of_b (b_mod (b_toInt (by rfl) T.z_int (ah_cons (b_mul (b_var 6) (b_add (b_var 6) b_int)) ah_nil)) b_int)))
    (ss_cons (s_set (i := 6) sc_law_digits.nd rfl (Or.inl rfl) (m_of_b (b_mod (b_toInt (by rfl) T.z_int (ah_cons (b_add (b_mul (b_var 6) (b_add (b_var 6) b_int)) (b_mul b_int (b_var 5))) ah_nil)) b_int)))
    (ss_one (s_app 3 (m_of_b (b_mod (b_toInt (by rfl) T.z_int (ah_cons (b_div (b_var 6) b_int) ah_nil)) (b_var 2)))))))))))
    (ss_one (s_retV 3)))))
/-! ### _law_seed -/
theorem sc_law_seed : FnScope ["_law_script", "_law_k"] ["_law_script", "_law_k"] (defScope s_law_seed) := ⟨rfl, rfl, rfl, by decide +kernel, rfl, by decide +kernel, by decide +kernel⟩
noncomputable def c_law_seed : SM :=
  (sSeq (sIf (eTest (eOp gLt (eVar 1) (eCall gLen (aCons (eVar 0) aNil))))
  (sRet (own0 (eCall gAbs (aCons (eIx (eVar 0) (eVar 1)) aNil))))
  sNext)
  (sRet (own0 (eIx (frzE (eFn m_law_digits (a0Cons (eOp gAdd (eOp gAdd (eFnF m_law_cell (aCons (eVar 0) (aCons (eC (.int 0)) aNil))) (eOp gMul (eC (.int 101)) (eVar 1))) (eC (.int 7))) (a0Cons (eC (.int 1)) (a0Cons (eOp gPow (eC (.int 10)) (eC (.int 9))) aNil))))) (eC (.int 0))))))
noncomputable def m_law_seed : FM := fnM 2 2 c_law_seed
theorem ok_law_seed (T : Txt K mg) : FnOk P w K mg base (L2N.CX P w) 2 T.a_law_seed T.fd_law_seed ["_law_script", "_law_k"] (spM K m_law_seed) :=
  fn_okM (k := 1) (F := c_law_seed) 2 2 rfl rfl T.F_law_seed sc_law_seed fun cdv A outer s H E hr => by
    unfold c_law_seed 
    exact (ss_cons (s_if (t_cmp op_lt ok_lt (b_var 1) (b_len (by rfl) T.z_len (ah_cons (b_var 0) ah_nil)) (nomark _)) (ss_one (s_ret (m_of_b (b_abs (by rfl) T.z_abs (ah_cons (b_ix (b_var 0) (b_var 1)) ah_nil))))) ss_nil)
    (ss_one (s_ret (m_of_b (b_ix (b_of_m (m_call (ok_law_digits T) takes_cx (hr.mono (by decide)) (by rfl) T.g_law_digits T.k_law_digits T.b_law_digits (a_cons (b_add (b_add (b_callF (ok_law_cell T) takes_cx (hr.mono (by decide)) (by rfl) T.g_law_cell T.k_law_cell T.b_law_cell (ah_cons (b_var 0) (ah_cons b_int ah_nil))) (b_mul b_int (b_var 1))) b_int) (a_cons b_int (a_cons (b_pow b_int b_int) a_nil))))) b_int)))))
/-! ### _law_prefix -/
theorem sc_law_prefix : FnScope ["_law_run", "_law_schedule", "_law_done", "_law_node"] ["_law_run", "_law_schedule"] (defScope s_law_prefix) := ⟨rfl, rfl, rfl, by decide +kernel, rfl, by decide +kernel, by decide +kernel⟩
noncomputable def c_law_prefix_1 : SM :=
  (sIf (tyAnd (eTest (eOp gLt (eVar 2) (eCall gLen (aCons (eVar 0) aNil)))) (eTest (eOp gEq (eIx (eVar 0) (eVar 2)) (eVar 3))))
  (sAsg 2 (own0 (eOp gAdd (eVar 2) (eC (.int 1)))))
  sNext)
noncomputable def c_law_prefix : SM :=
  (sSeq (sAsg 2 (own0 (eC (.int 0))))
  (sSeq (sFrz 1 (sFor (iSeq (eVar 1)) (tgName 3) c_law_prefix_1))
  (sRetV 2)))
noncomputable def m_law_prefix : FM := fnM 2 4 c_law_prefix
theorem ok_law_prefix (T : Txt K mg) : FnOk P w K mg base (L2N.CX P w) 1 T.a_law_prefix T.fd_law_prefix ["_law_run", "_law_schedule"] (spM K m_law_prefix) :=
  fn_okM (k := 0) (F := c_law_prefix) 2 4 rfl rfl T.F_law_prefix sc_law_prefix fun cdv A outer s H E hr => by
    unfold c_law_prefix c_law_prefix_1
    exact (ss_cons (s_set (i := 2) sc_law_prefix.nd rfl (Or.inl rfl) (m_of_b b_int))
    (ss_cons (s_frz 1 (s_for passes_cx rfl (i_list (b_var 1)) (pg_name (i := 3) sc_law_prefix.nd rfl (Or.inl rfl)) tg_name (ss_one (s_if (PW.pt (w_and (t_cmp op_lt ok_lt (b_var 2) (b_len (by rfl) T.z_len (ah_cons (b_var 0) ah_nil)) (nomark _)) (w_and1 (t_cmp (op_eqA (units_cx hr)) ok_eq (b_ix (b_var 0) (b_var 2)) (b_var 3) (nomark _))))) (ss_one (s_set (i := 2) sc_law_prefix.nd rfl (Or.inl rfl) (m_of_b (b_add (b_var 2) b_int)))) ss_nil))))
    (ss_one (s_retV 2))))
/-! ### _law_is_int -/
theorem sc_law_is_int : FnScope ["_law_value"] ["_law_value"] (defScope s_law_is_int) := ⟨rfl, rfl, rfl, by decide +kernel, rfl, by decide +kernel, by decide +kernel⟩
noncomputable def c_law_is_int : SM :=
  (sRet (own0 (eAnd (eUn (gIsi "int") (eVar 0)) (eNot (eUn (gIsi "bool") (eVar 0))))))
noncomputable def m_law_is_int : FM := fnM 1 1 c_law_is_int
theorem ok_law_is_int (T : Txt K mg) : FnOk P w K mg base (L2N.CX P w) 1 T.a_law_is_int T.fd_law_is_int ["_law_value"] (spM K m_law_is_int) :=
  fn_okM (k := 0) (F := c_law_is_int) 1 1 rfl rfl T.F_law_is_int sc_law_is_int fun cdv A outer s H E hr => by
    unfold c_law_is_int 
    exact (ss_one (s_ret (m_of_b (b_and (b_isi "int" (by rfl) T.z_isinstance (by rfl) T.z_int (by decide +kernel) (b_var 0)) (b_one (b_not (b_isi "bool" (by rfl) T.z_isinstance (by rfl) T.z_bool (by decide +kernel) (b_var 0))))))))
/-! ### _law_ints -/
theorem sc_law_ints : FnScope ["_law_row", "_law_value"] ["_law_row"] (defScope s_law_ints) := ⟨rfl, rfl, rfl, by decide +kernel, rfl, by decide +kernel, by decide +kernel⟩
noncomputable def c_law_ints_1 : SM :=
  (sIf (tyNot (eTest (eFnF m_law_is_int (aCons (eVar 1) aNil))))
  (sRet (own0 (eC (.bl false))))
  sNext)
noncomputable def c_law_ints : SM :=
  (sSeq (sIf (tyNot (eTest (eUn (gIsi "list") (eVar 0))))
  (sRet (own0 (eC (.bl false))))
  sNext)
  (sSeq (sFrz 0 (sFor (iSeq (eVar 0)) (tgName 1) c_law_ints_1))
  (sRet (own0 (eC (.bl true))))))
noncomputable def m_law_ints : FM := fnM 1 2 c_law_ints
theorem ok_law_ints (T : Txt K mg) : FnOk P w K mg base (L2N.CX P w) 2 T.a_law_ints T.fd_law_ints ["_law_row"] (spM K m_law_ints) :=
  fn_okM (k := 1) (F := c_law_ints) 1 2 rfl rfl T.F_law_ints sc_law_ints fun cdv A outer s H E hr => by
    unfold c_law_ints c_law_ints_1
    exact (ss_cons (s_if (t_not (t_val (b_isi "list" (by rfl) T.z_isinstance (by rfl) T.z_list (by decide +kernel) (b_var 0)))) (ss_one (s_ret (m_of_b b_bl))) ss_nil)
    (ss_cons (s_frz 0 (s_for passes_cx rfl (i_list (b_var 0)) (pg_name (i := 1) sc_law_ints.nd rfl (Or.inl rfl)) tg_name (ss_one (s_if (t_not (t_val (b_callF (ok_law_is_int T) takes_cx (hr.mono (by decide)) (by rfl) T.g_law_is_int T.k_law_is_int T.b_law_is_int (ah_cons (b_var 1) ah_nil)))) (ss_one (s_ret (m_of_b b_bl))) ss_nil))))
    (ss_one (s_ret (m_of_b b_bl)))))
/-! ### _law_whole -/
theorem sc_law_whole : FnScope ["_law_runs", "_law_schedule", "_law_run"] ["_law_runs", "_law_schedule"] (defScope s_law_whole) := ⟨rfl, rfl, rfl, by decide +kernel, rfl, by decide +kernel, by decide +kernel⟩
noncomputable def c_law_whole_1 : SM :=
  (sIf (eTest (eOp gLt (eFnF m_law_prefix (aCons (eVar 2) (aCons (eVar 1) aNil))) (eCall gLen (aCons (eVar 2) aNil))))
  (sRet (own0 (eC (.bl false))))
  sNext)
noncomputable def c_law_whole : SM :=
  (sSeq (sFrz 0 (sFor (iSeq (eVar 0)) (tgName 2) c_law_whole_1))
  (sRet (own0 (eC (.bl true)))))
noncomputable def m_law_whole : FM := fnM 2 3 c_law_whole
theorem ok_law_whole (T : Txt K mg) : FnOk P w K mg base (L2N.CX P w) 2 T.a_law_whole T.fd_law_whole ["_law_runs", "_law_schedule"] (spM K m_law_whole) :=
  fn_okM (k := 1) (F := c_law_whole) 2 3 rfl rfl T.F_law_whole sc_law_whole fun cdv A outer s H E hr => by
    unfold c_law_whole c_law_whole_1
    exact (ss_cons (s_frz 0 (s_for passes_cx rfl (i_list (b_var 0)) (pg_name (i := 2) sc_law_whole.nd rfl (Or.inl rfl)) tg_name (ss_one (s_if (t_cmp op_lt ok_lt (b_callF (ok_law_prefix T) takes_cx (hr.mono (by decide)) (by rfl) T.g_law_prefix T.k_law_prefix T.b_law_prefix (ah_cons (b_var 2) (ah_cons (b_var 1) ah_nil))) (b_len (by rfl) T.z_len (ah_cons (b_var 2) ah_nil)) (nomark _)) (ss_one (s_ret (m_of_b b_bl))) ss_nil))))
    (ss_one (s_ret (m_of_b b_bl))))
/-! ### _law_symbol -/
theorem sc_law_symbol : FnScope ["_law_turn", "_law_digit", "_law_place"] ["_law_turn", "_law_digit"] (defScope s_law_symbol) := ⟨rfl, rfl, rfl, by decide +kernel, rfl, by decide +kernel, by decide +kernel⟩
noncomputable def c_law_symbol : SM :=
  (sSeq (sAsg 2 (own0 (eOp gMod (eCall gToInt (aCons (eVar 1) aNil)) (eOp gAdd (eC (.int 1)) (eOp gMod (eCall gToInt (aCons (eOp gDiv (eVar 0) (eC (.int 4))) aNil)) (eC (.int 6)))))))
  (sSeq (sIf (eTest (eOp gEq (eOp gMod (eCall gToInt (aCons (eVar 0) aNil)) (eC (.int 4))) (eC (.int 1))))
  (sRet (own0 (eOp Mv.gSub (eOp gPow (eC (.int 10)) (eC (.int 9))) (eVar 2))))
  sNext)
  (sSeq (sIf (eTest (eOp gEq (eOp gMod (eCall gToInt (aCons (eVar 0) aNil)) (eC (.int 4))) (eC (.int 2))))
  (sRet (own0 (eOp Mv.gSub (eVar 2) (eC (.int 2)))))
  sNext)
  (sRetV 2))))
noncomputable def m_law_symbol : FM := fnM 2 3 c_law_symbol
theorem ok_law_symbol (T : Txt K mg) : FnOk P w K mg base (L2N.CX P w) 1 T.a_law_symbol T.fd_law_symbol ["_law_turn", "_law_digit"] (spM K m_law_symbol) :=
  fn_okM (k := 0) (F := c_law_symbol) 2 3 rfl rfl T.F_law_symbol sc_law_symbol fun cdv A outer s H E hr => by
    unfold c_law_symbol 
    exact (ss_cons (s_set (i := 2) sc_law_symbol.nd rfl (Or.inl rfl) (m_of_b (b_mod (b_toInt (by rfl) T.z_int (ah_cons (b_var 1) ah_nil)) (b_add b_int (b_mod (b_toInt (by rfl) T.z_int (ah_cons (b_div (b_var 0) b_int) ah_nil)) b_int)))))
    (ss_cons (s_if (t_cmp (op_eqA (units_cx hr)) ok_eq (b_mod (b_toInt (by rfl) T.z_int (ah_cons (b_var 0) ah_nil)) b_int) b_int (nomark _)) (ss_one (s_ret (m_of_b (b_sub (b_pow b_int b_int) (b_var 2))))) ss_nil)
    (ss_cons (s_if (t_cmp (op_eqA (units_cx hr)) ok_eq (b_mod (b_toInt (by rfl) T.z_int (ah_cons (b_var 0) ah_nil)) b_int) b_int (nomark _)) (ss_one (s_ret (m_of_b (b_sub (b_var 2) b_int)))) ss_nil)
    (ss_one (s_retV 2)))))
/-! ### _law_lists -/
theorem sc_law_lists : FnScope ["_law_script", "_law_turn", "_law_lists_here", "_law_j", "_law_row", "_law_size", "_law_k"] ["_law_script", "_law_turn"] (defScope s_law_lists) := ⟨rfl, rfl, rfl, by decide +kernel, rfl, by decide +kernel, by decide +kernel⟩
noncomputable def c_law_lists_1 : SM :=
  (sSeq (sAsg 4 (eFn m_law_digits (a0Cons (eFnF m_law_seed (aCons (eVar 0) (aCons (eOp gAdd (eC (.int 1)) (eVar 3)) aNil))) (a0Cons (eC (.int 9)) (a0Cons (eC (.int 55440)) aNil)))))
  (sSeq (sAsg 5 (own0 (eOp gMod (eCall gToInt (aCons (eIx (eVar 4) (eC (.int 0))) aNil)) (eC (.int 5)))))
  (sSeq (sIf (tyAnd (eTest (eOp gLt (eVar 3) (eC (.int 2)))) (eTest (eOp gEq (eOp gMod (eCall gToInt (aCons (eOp gDiv (eIx (eVar 4) (eC (.int 0))) (eC (.int 5))) aNil)) (eC (.int 8))) (eC (.int 3)))))
  (sAsg 5 (own0 (eC (.int 8))))
  sNext)
  (sIf (tyAnd (eTest (eOp gGt (eVar 3) (eC (.int 0)))) (eTest (eOp gEq (eOp gMod (eCall gToInt (aCons (eOp gDiv (eIx (eVar 4) (eC (.int 0))) (eC (.int 40))) aNil)) (eC (.int 4))) (eC (.int 1)))))
  (sApp 2 (own0 (frzE (eList (frzE (eSl (eIx (eVar 2) (eOp Mv.gSub (eVar 3) (eC (.int 1)))) pNone (pSome (eC (.int 4)))))))))
  (sApp 2 (own0 (frzE (eLc [6] (iRg1 (aCons (eVar 5) aNil)) (tgName 6) tcYes (eFnF m_law_symbol (aCons (eVar 1) (aCons (eIx (eVar 4) (eOp gAdd (eC (.int 1)) (eVar 6))) aNil)))))))))))
noncomputable def c_law_lists : SM :=
  (sSeq (sAsg 2 (eLst aNil))
  (sSeq (sFor (iRg1 (aCons (eOp gMod (eCall gToInt (aCons (eOp gDiv (eVar 1) (eC (.int 24))) aNil)) (eC (.int 6))) aNil)) (tgName 3) c_law_lists_1)
  (sRetV 2)))
noncomputable def m_law_lists : FM := fnM 2 7 c_law_lists
theorem ok_law_lists (T : Txt K mg) : FnOk P w K mg base (L2N.CX P w) 3 T.a_law_lists T.fd_law_lists ["_law_script", "_law_turn"] (spM K m_law_lists) :=
  fn_okM (k := 2) (F := c_law_lists) 2 7 rfl rfl T.F_law_lists sc_law_lists fun cdv A outer s H E hr => by
    unfold c_law_lists c_law_lists_1
    exact (ss_cons (s_set (i := 2) sc_law_lists.nd rfl (Or.inl rfl) (m_lst a_nil))
    (ss_cons (s_for passes_cx rfl (i_range1 (by rfl) T.z_range (ah_cons (b_mod (b_toInt (by rfl) T.z_int (ah_cons (b_div (b_var 1) b_int) ah_nil)) b_int) ah_nil)) (pg_name (i := 3) sc_law_lists.nd rfl (Or.inl rfl)) tg_name (ss_cons (s_set (i := 4) sc_law_lists.nd rfl (Or.inr rfl) (m_call (ok_law_digits T) takes_cx (hr.mono (by decide)) (by rfl) T.g_law_digits T.k_law_digits T.b_law_digits (a_cons (b_callF (ok_law_seed T) takes_cx (hr.mono (by decide)) (by rfl) T.g_law_seed T.k_law_seed T.b_law_seed (ah_cons (b_var 0) (ah_cons (b_add b_int (b_var 3)) ah_nil))) (a_cons b_int (a_cons b_int a_nil)))))
    (ss_cons (s_set (i := 5) sc_law_lists.nd rfl (Or.inl rfl) (m_of_b (b_mod (b_toInt (by rfl) T.z_int (ah_cons (b_ix (b_var 4) b_int) ah_nil)) b_int)))
    (ss_cons (s_if (PW.pt (w_and (t_cmp op_lt ok_lt (b_var 3) b_int (nomark _)) (w_and1 (t_cmp (op_eqA (units_cx hr)) ok_eq (b_mod (b_toInt (by rfl) T.z_int (ah_cons (b_div (b_ix (b_var 4) b_int) b_int) ah_nil)) b_int) b_int (nomark _))))) (ss_one (s_set (i := 5) sc_law_lists.nd rfl (Or.inl rfl) (m_of_b b_int))) ss_nil)
    (ss_one (s_if (PW.pt (w_and (t_cmp op_gt ok_gt (b_var 3) b_int (nomark _)) (w_and1 (t_cmp (op_eqA (units_cx hr)) ok_eq (b_mod (b_toInt (by rfl) T.z_int (ah_cons (b_div (b_ix (b_var 4) b_int) b_int) ah_nil)) b_int) b_int (nomark _))))) (ss_one (s_app 2 (m_of_b (b_of_m (m_list (by rfl) T.z_list (b_of_m (m_sl (b_ix (b_var 2) (b_sub (b_var 3) b_int)) o_none (o_some b_int)))))))) (ss_one (s_app 2 (m_of_b (b_of_m (m_lc (own := [("_law_k", 6)]) rfl sc_law_lists.nd (i_range1 (by rfl) T.z_range (ah_cons (b_var 5) ah_nil)) (blkOk_by (N := ["_law_script", "_law_turn", "_law_lists_here", "_law_j", "_law_row", "_law_size", "_law_k"]) (sc := defScope s_law_lists) (own := [("_law_k", 6)]) (by decide +kernel)) (tw_name (by decide)) (fun _ _ _ _ _ => (pg_name (i := 6) sc_law_lists.nd rfl (Or.inl rfl))) (fun _ _ _ _ _ => c_nil) (fun _ _ _ _ _ => (b_callF (ok_law_symbol T) takesN0 (hr.mono (by decide)) (by rfl) T.g_law_symbol T.k_law_symbol T.b_law_symbol (ah_cons (b_var 1) (ah_cons (b_ix (b_var 4) (b_add b_int (b_var 6))) ah_nil)))))))))))))))
    (ss_one (s_retV 2))))
/-! ### _law_woven -/
theorem sc_law_woven : FnScope ["_law_lists_here", "_law_extra", "_law_cell_here", "_law_row", "_law_spots", "_law_beats_here", "_law_k", "_law_waiting", "_law_j", "_law_chosen", "_law_symbol_here"] ["_law_lists_here", "_law_extra", "_law_cell_here"] (defScope s_law_woven) := ⟨rfl, rfl, rfl, by decide +kernel, rfl, by decide +kernel, by decide +kernel⟩
noncomputable def c_law_woven_1 : SM :=
  (sIf (tyOr (eTest (eOp gEq (eVar 8) (eVar 9))) (tyAnd (eTest (eOp gEq (eOp gMod (eCall gToInt (aCons (eOp gDiv (eIx (eVar 3) (eVar 6)) (eC (.int 240))) aNil)) (eC (.int 2))) (eC (.int 1)))) (eTest (eOp gEq (eIx (eIx (eVar 0) (eVar 8)) (eIx (eVar 4) (eVar 8))) (eVar 10)))))
  (sSetI 4 (eVar 8) (own0 (eOp gAdd (eIx (eVar 4) (eVar 8)) (eC (.int 1)))))
  sNext)
noncomputable def c_law_woven_2 : SM :=
  (sSeq (sAsg 7 (eLc [8] (iRg1 (aCons (eCall gLen (aCons (eVar 0) aNil)) aNil)) (tgName 8) (eTest (eOp gLt (eIx (eVar 4) (eVar 8)) (eCall gLen (aCons (eIx (eVar 0) (eVar 8)) aNil)))) (eVar 8)))
  (sIf (tyAnd (eTest (eOp gLt (eVar 6) (eC (.int 12)))) (eTest (eOp gEq (eOp gMod (eCall gToInt (aCons (eIx (eVar 3) (eVar 6)) aNil)) (eC (.int 4))) (eC (.int 1)))))
  (sApp 5 (own0 (eIx (eVar 1) (eOp gMod (eCall gToInt (aCons (eOp gDiv (eIx (eVar 3) (eVar 6)) (eC (.int 4))) aNil)) (eCall gLen (aCons (eVar 1) aNil))))))
  (sIf (eTest (eOp gGt (eCall gLen (aCons (eVar 7) aNil)) (eC (.int 0))))
  (sSeq (sAsg 9 (own0 (eIx (eVar 7) (eOp gMod (eCall gToInt (aCons (eOp gDiv (eIx (eVar 3) (eVar 6)) (eC (.int 4))) aNil)) (eCall gLen (aCons (eVar 7) aNil))))))
  (sSeq (sAsg 10 (own0 (eIx (eIx (eVar 0) (eVar 9)) (eIx (eVar 4) (eVar 9)))))
  (sSeq (sApp 5 (own0 (eVar 10)))
  (sFrz 7 (sFor (iSeq (eVar 7)) (tgName 8) c_law_woven_1)))))
  sNext)))
noncomputable def c_law_woven : SM :=
  (sSeq (sAsg 3 (eFn m_law_digits (a0Cons (eVar 2) (a0Cons (eC (.int 40)) (a0Cons (eC (.int 55440)) aNil)))))
  (sSeq (sAsg 4 (eRep (frzE (eLst (a0Cons (eC (.int 0)) aNil))) (eCall gLen (aCons (eVar 0) aNil))))
  (sSeq (sAsg 5 (eLst aNil))
  (sSeq (sFor (iRg1 (aCons (eC (.int 40)) aNil)) (tgName 6) c_law_woven_2)
  (sRetV 5)))))
noncomputable def m_law_woven : FM := fnM 3 11 c_law_woven
theorem ok_law_woven (T : Txt K mg) : FnOk P w K mg base (L2N.CX P w) 2 T.a_law_woven T.fd_law_woven ["_law_lists_here", "_law_extra", "_law_cell_here"] (spM K m_law_woven) :=
  fn_okM (k := 1) (F := c_law_woven) 3 11 rfl rfl T.F_law_woven sc_law_woven fun cdv A outer s H E hr => by
    unfold c_law_woven c_law_woven_2 c_law_woven_1
    exact (ss_cons (s_set (i := 3) sc_law_woven.nd rfl (Or.inl rfl) (m_call (ok_law_digits T) takes_cx (hr.mono (by decide)) (by rfl) T.g_law_digits T.k_law_digits T.b_law_digits (a_cons (b_var 2) (a_cons b_int (a_cons b_int a_nil)))))
    (ss_cons (s_set (i := 4) sc_law_woven.nd rfl (Or.inr rfl) (m_rep (b_of_m (m_lst (a_cons b_int a_nil))) (b_len (by rfl) T.z_len (ah_cons (b_var 0) ah_nil))))
    (ss_cons (s_set (i := 5) sc_law_woven.nd rfl (Or.inl rfl) (m_lst a_nil))
    (ss_cons (s_for passes_cx rfl (i_range1 (by rfl) T.z_range (ah_cons b_int ah_nil)) (pg_name (i := 6) sc_law_woven.nd rfl (Or.inl rfl)) tg_name (ss_cons (s_setLc (own := [("_law_j", 8)]) (i := 7) rfl sc_law_woven.nd rfl rfl (sw_true rfl rfl rfl (by decide +kernel)) (i_range1 (by rfl) T.z_range (ah_cons (b_len (by rfl) T.z_len (ah_cons (b_var 0) ah_nil)) ah_nil)) (blkOk_by (N := ["_law_lists_here", "_law_extra", "_law_cell_here", "_law_row", "_law_spots", "_law_beats_here", "_law_k", "_law_waiting", "_law_j", "_law_chosen", "_law_symbol_here"]) (sc := defScope s_law_woven) (own := [("_law_j", 8)]) (by decide +kernel)) (tw_name (by decide)) (fun _ _ _ _ _ => (pg_name (i := 8) sc_law_woven.nd rfl (Or.inl rfl))) (fun _ _ _ _ _ => (c_one (t_cmp op_lt ok_lt (b_ix (b_var 4) (b_var 8)) (b_len (by rfl) T.z_len (ah_cons (b_ix (b_var 0) (b_var 8)) ah_nil)) (nomark _)))) (fun _ _ _ _ _ => (b_var 8)))
    (ss_one (s_if (PW.pt (w_and (t_cmp op_lt ok_lt (b_var 6) b_int (nomark _)) (w_and1 (t_cmp (op_eqA (units_cx hr)) ok_eq (b_mod (b_toInt (by rfl) T.z_int (ah_cons (b_ix (b_var 3) (b_var 6)) ah_nil)) b_int) b_int (nomark _))))) (ss_one (s_app 5 (m_of_b (b_ix (b_var 1) (b_mod (b_toInt (by rfl) T.z_int (ah_cons (b_div (b_ix (b_var 3) (b_var 6)) b_int) ah_nil)) (b_len (by rfl) T.z_len (ah_cons (b_var 1) ah_nil))))))) (ss_one (s_if (t_cmp op_gt ok_gt (b_len (by rfl) T.z_len (ah_cons (b_var 7) ah_nil)) b_int (nomark _)) (ss_cons (s_set (i := 9) sc_law_woven.nd rfl (Or.inl rfl) (m_of_b (b_ix (b_var 7) (b_mod (b_toInt (by rfl) T.z_int (ah_cons (b_div (b_ix (b_var 3) (b_var 6)) b_int) ah_nil)) (b_len (by rfl) T.z_len (ah_cons (b_var 7) ah_nil))))))
    (ss_cons (s_set (i := 10) sc_law_woven.nd rfl (Or.inl rfl) (m_of_b (b_ix (b_ix (b_var 0) (b_var 9)) (b_ix (b_var 4) (b_var 9)))))
    (ss_cons (s_app 5 (m_of_b (b_var 10)))
    (ss_one (s_frz 7 (s_for passes_cx rfl (i_list (b_var 7)) (pg_name (i := 8) sc_law_woven.nd rfl (Or.inl rfl)) tg_name (ss_one (s_if (PW.pt (w_or (t_cmp (op_eqA (units_cx hr)) ok_eq (b_var 8) (b_var 9) (nomark _)) (w_or1 (PW.pt (w_and (t_cmp (op_eqA (units_cx hr)) ok_eq (b_mod (b_toInt (by rfl) T.z_int (ah_cons (b_div (b_ix (b_var 3) (b_var 6)) b_int) ah_nil)) b_int) b_int (nomark _)) (w_and1 (t_cmp (op_eqA (units_cx hr)) ok_eq (b_ix (b_ix (b_var 0) (b_var 8)) (b_ix (b_var 4) (b_var 8))) (b_var 10) (nomark _)))))))) (ss_one (s_setI 4 (m_of_b (b_add (b_ix (b_var 4) (b_var 8)) b_int)) (b_var 8))) ss_nil)))))))) ss_nil))))))
    (ss_one (s_retV 5))))))
/-! ### _law_beats -/
theorem sc_law_beats : FnScope ["_law_script", "_law_lists_here", "_law_turn", "_law_extra", "_law_beats_here", "_law_row", "_law_kind", "_law_place", "_law_k"] ["_law_script", "_law_lists_here", "_law_turn"] (defScope s_law_beats) := ⟨rfl, rfl, rfl, by decide +kernel, rfl, by decide +kernel, by decide +kernel⟩
noncomputable def c_law_beats : SM :=
  (sSeq (sAsg 3 (eLc [8] (iRg1 (aCons (eC (.int 6)) aNil)) (tgName 8) tcYes (eFnF m_law_symbol (aCons (eVar 2) (aCons (eVar 8) aNil)))))
  (sSeq (sFrz 3 (sFrz 1 (sAsg 4 (eFn m_law_woven (a0Cons (eVar 1) (a0Cons (eVar 3) (a0Cons (eFnF m_law_seed (aCons (eVar 0) (aCons (eC (.int 6)) aNil))) aNil)))))))
  (sSeq (sAsg 5 (eFn m_law_digits (a0Cons (eFnF m_law_seed (aCons (eVar 0) (aCons (eC (.int 7)) aNil))) (a0Cons (eC (.int 21)) (a0Cons (eC (.int 55440)) aNil)))))
  (sSeq (sAsg 6 (own0 (eOp gMod (eCall gToInt (aCons (eOp gDiv (eVar 2) (eC (.int 144))) aNil)) (eC (.int 4)))))
  (sSeq (sIf (eTest (eOp gEq (eVar 6) (eC (.int 2))))
  (sSeq (sAsg 7 (own0 (eOp gMod (eCall gToInt (aCons (eIx (eVar 5) (eC (.int 0))) aNil)) (eCall gMax2 (aCons (eC (.int 1)) (aCons (eCall gLen (aCons (eVar 4) aNil)) aNil))))))
  (sRet (eCat (frzE (eSl (eVar 4) pNone (pSome (eVar 7)))) (frzE (eSl (eVar 4) (pSome (eOp gAdd (eVar 7) (eC (.int 1)))) pNone)))))
  sNext)
  (sSeq (sIf (eTest (eOp gEq (eVar 6) (eC (.int 3))))
  (sRet (eLc [8] (iRg1 (aCons (eOp gMod (eCall gToInt (aCons (eIx (eVar 5) (eC (.int 0))) aNil)) (eC (.int 21))) aNil)) (tgName 8) tcYes (eFnF m_law_symbol (aCons (eVar 2) (aCons (eIx (eVar 5) (eOp gAdd (eC (.int 1)) (eVar 8))) aNil)))))
  sNext)
  (sRetV 4)))))))
noncomputable def m_law_beats : FM := fnM 3 9 c_law_beats
theorem ok_law_beats (T : Txt K mg) : FnOk P w K mg base (L2N.CX P w) 3 T.a_law_beats T.fd_law_beats ["_law_script", "_law_lists_here", "_law_turn"] (spM K m_law_beats) :=
  fn_okM (k := 2) (F := c_law_beats) 3 9 rfl rfl T.F_law_beats sc_law_beats fun cdv A outer s H E hr => by
    unfold c_law_beats 
    exact (ss_cons (s_setLc (own := [("_law_k", 8)]) (i := 3) rfl sc_law_beats.nd rfl rfl (sw_true rfl rfl rfl (by decide +kernel)) (i_range1 (by rfl) T.z_range (ah_cons b_int ah_nil)) (blkOk_by (N := ["_law_script", "_law_lists_here", "_law_turn", "_law_extra", "_law_beats_here", "_law_row", "_law_kind", "_law_place", "_law_k"]) (sc := defScope s_law_beats) (own := [("_law_k", 8)]) (by decide +kernel)) (tw_name (by decide)) (fun _ _ _ _ _ => (pg_name (i := 8) sc_law_beats.nd rfl (Or.inl rfl))) (fun _ _ _ _ _ => c_nil) (fun _ _ _ _ _ => (b_callF (ok_law_symbol T) takesN0 (hr.mono (by decide)) (by rfl) T.g_law_symbol T.k_law_symbol T.b_law_symbol (ah_cons (b_var 2) (ah_cons (b_var 8) ah_nil)))))
    (ss_cons (s_frz 3 (s_frz 1 (s_set (i := 4) sc_law_beats.nd rfl (Or.inl rfl) (m_call (ok_law_woven T) takes_cx (hr.mono (by decide)) (by rfl) T.g_law_woven T.k_law_woven T.b_law_woven (a_cons (b_var 1) (a_cons (b_var 3) (a_cons (b_callF (ok_law_seed T) takes_cx (hr.mono (by decide)) (by rfl) T.g_law_seed T.k_law_seed T.b_law_seed (ah_cons (b_var 0) (ah_cons b_int ah_nil))) a_nil)))))))
    (ss_cons (s_set (i := 5) sc_law_beats.nd rfl (Or.inr rfl) (m_call (ok_law_digits T) takes_cx (hr.mono (by decide)) (by rfl) T.g_law_digits T.k_law_digits T.b_law_digits (a_cons (b_callF (ok_law_seed T) takes_cx (hr.mono (by decide)) (by rfl) T.g_law_seed T.k_law_seed T.b_law_seed (ah_cons (b_var 0) (ah_cons b_int ah_nil))) (a_cons b_int (a_cons b_int a_nil)))))
    (ss_cons (s_set (i := 6) sc_law_beats.nd rfl (Or.inl rfl) (m_of_b (b_mod (b_toInt (by rfl) T.z_int (ah_cons (b_div (b_var 2) b_int) ah_nil)) b_int)))
    (ss_cons (s_if (t_cmp (op_eqA (units_cx hr)) ok_eq (b_var 6) b_int (nomark _)) (ss_cons (s_set (i := 7) sc_law_beats.nd rfl (Or.inl rfl) (m_of_b (b_mod (b_toInt (by rfl) T.z_int (ah_cons (b_ix (b_var 5) b_int) ah_nil)) (b_max2 rfl (by rfl) T.z_max (ah_cons b_int (ah_cons (b_len (by rfl) T.z_len (ah_cons (b_var 4) ah_nil)) ah_nil))))))
    (ss_one (s_ret (m_cat (b_of_m (m_sl (b_var 4) o_none (o_some (b_var 7)))) (b_of_m (m_sl (b_var 4) (o_some (b_add (b_var 7) b_int)) o_none)))))) ss_nil)
    (ss_cons (s_if (t_cmp (op_eqA (units_cx hr)) ok_eq (b_var 6) b_int (nomark _)) (ss_one (s_ret (m_lc (own := [("_law_k", 8)]) rfl sc_law_beats.nd (i_range1 (by rfl) T.z_range (ah_cons (b_mod (b_toInt (by rfl) T.z_int (ah_cons (b_ix (b_var 5) b_int) ah_nil)) b_int) ah_nil)) (blkOk_by (N := ["_law_script", "_law_lists_here", "_law_turn", "_law_extra", "_law_beats_here", "_law_row", "_law_kind", "_law_place", "_law_k"]) (sc := defScope s_law_beats) (own := [("_law_k", 8)]) (by decide +kernel)) (tw_name (by decide)) (fun _ _ _ _ _ => (pg_name (i := 8) sc_law_beats.nd rfl (Or.inl rfl))) (fun _ _ _ _ _ => c_nil) (fun _ _ _ _ _ => (b_callF (ok_law_symbol T) takesN0 (hr.mono (by decide)) (by rfl) T.g_law_symbol T.k_law_symbol T.b_law_symbol (ah_cons (b_var 2) (ah_cons (b_ix (b_var 5) (b_add b_int (b_var 8))) ah_nil))))))) ss_nil)
    (ss_one (s_retV 4))))))))
/-! ### _law_thinned -/
theorem sc_law_thinned : FnScope ["_law_lists_here", "_law_beats_here", "_law_kept", "_law_k"] ["_law_lists_here", "_law_beats_here"] (defScope s_law_thinned) := ⟨rfl, rfl, rfl, by decide +kernel, rfl, by decide +kernel, by decide +kernel⟩
noncomputable def c_law_thinned_1 : SM :=
  (sIf (tyNot (eTest (eFnF m_law_whole (aCons (eVar 0) (aCons (frzE (eCat (eVar 2) (frzE (eSl (eVar 1) (pSome (eOp gAdd (eVar 3) (eC (.int 1)))) pNone)))) aNil)))))
  (sApp 2 (own0 (eIx (eVar 1) (eVar 3))))
  sNext)
noncomputable def c_law_thinned : SM :=
  (sSeq (sAsg 2 (eLst aNil))
  (sSeq (sFor (iRg1 (aCons (eCall gLen (aCons (eVar 1) aNil)) aNil)) (tgName 3) c_law_thinned_1)
  (sRetV 2)))
noncomputable def m_law_thinned : FM := fnM 2 4 c_law_thinned
theorem ok_law_thinned (T : Txt K mg) : FnOk P w K mg base (L2N.CX P w) 3 T.a_law_thinned T.fd_law_thinned ["_law_lists_here", "_law_beats_here"] (spM K m_law_thinned) :=
  fn_okM (k := 2) (F := c_law_thinned) 2 4 rfl rfl T.F_law_thinned sc_law_thinned fun cdv A outer s H E hr => by
    unfold c_law_thinned c_law_thinned_1
    exact (ss_cons (s_set (i := 2) sc_law_thinned.nd rfl (Or.inl rfl) (m_lst a_nil))
    (ss_cons (s_for passes_cx rfl (i_range1 (by rfl) T.z_range (ah_cons (b_len (by rfl) T.z_len (ah_cons (b_var 1) ah_nil)) ah_nil)) (pg_name (i := 3) sc_law_thinned.nd rfl (Or.inl rfl)) tg_name (ss_one (s_if (t_not (t_val (b_callF (ok_law_whole T) takes_cx (hr.mono (by decide)) (by rfl) T.g_law_whole T.k_law_whole T.b_law_whole (ah_cons (b_var 0) (ah_cons (b_of_m (m_cat (b_var 2) (b_of_m (m_sl (b_var 1) (o_some (b_add (b_var 3) b_int)) o_none)))) ah_nil))))) (ss_one (s_app 2 (m_of_b (b_ix (b_var 1) (b_var 3))))) ss_nil)))
    (ss_one (s_retV 2))))
/-! ### _law_is_incomplete -/
theorem sc_law_is_incomplete : FnScope ["_law_e"] ["_law_e"] (defScope s_law_is_incomplete) := ⟨rfl, rfl, rfl, by decide +kernel, rfl, by decide +kernel, by decide +kernel⟩
noncomputable def c_law_is_incomplete (T : Txt K mg) (a0 : Addr) (e0 : Exo) : SM :=
  (sSeq (sIf (eTest (eIsx K a0 e0 [.ref T.a_BadNode, .ref T.a_Unreachable, .ref T.a_NoEnd, .ref T.a_BadRing, .ref T.a_TextError, .ref T.a_BareLoop, .ref T.a_BadStart, .ref T.a_BadRun, .ref T.a_NotStanding] (eVar 0)))
  (sRet (own0 (eC (.bl false))))
  sNext)
  (sSeq (sIf (eTest (eIsx K a0 e0 [.ref T.a_BadStay, .ref T.a_TooLarge, .ref T.a_WildProgram, .ref T.a_NoWild, .ref T.a_BadWord, .ref T.a_BadChange, .ref T.a_BadDoors, .ref T.a_BadOrder, .ref T.a_MixedGraphs] (eVar 0)))
  (sRet (own0 (eC (.bl false))))
  sNext)
  (sRet (own0 (eAnd (eIsx K a0 e0 [.ref T.a_Incomplete] (eVar 0)) (eAnd (eIsx K a0 e0 [.type "ValueError"] (eVar 0)) (eNot (eIsx K a0 e0 [.ref T.a_NotOver, .ref T.a_DeskError] (eVar 0)))))))))
noncomputable def m_law_is_incomplete (T : Txt K mg) (a0 : Addr) (e0 : Exo) : FM := fnM 1 1 (c_law_is_incomplete T a0 e0)
theorem ok_law_is_incomplete (T : Txt K mg) : FnX P w K mg base (L2N.CX P w) 1 T.a_law_is_incomplete T.fd_law_is_incomplete ["_law_e"] (spX K (m_law_is_incomplete T)) :=
  fn_okX (k := 0) (F := c_law_is_incomplete T) 1 1 rfl rfl T.F_law_is_incomplete sc_law_is_incomplete fun cdv A outer s H E p0 e0 hr hh => by
    unfold c_law_is_incomplete 
    exact (ss_cons (s_if (t_val (b_isxT hh (cs := [.ref T.a_BadNode, .ref T.a_Unreachable, .ref T.a_NoEnd, .ref T.a_BadRing, .ref T.a_TextError, .ref T.a_BareLoop, .ref T.a_BadStart, .ref T.a_BadRun, .ref T.a_NotStanding]) (ws := [.ref T.a_BadNode, .ref T.a_Unreachable, .ref T.a_NoEnd, .ref T.a_BadRing, .ref T.a_TextError, .ref T.a_BareLoop, .ref T.a_BadStart, .ref T.a_BadRun, .ref T.a_NotStanding]) (by rfl) T.z_isinstance (.cons (.own _) (.cons (.own _) (.cons (.own _) (.cons (.own _) (.cons (.own _) (.cons (.own _) (.cons (.own _) (.cons (.own _) (.cons (.own _) .nil))))))))) (pa_cons (pe_glob (v := .ref T.a_BadNode) (by rfl) T.g_BadNode rfl) (pa_cons (pe_glob (v := .ref T.a_Unreachable) (by rfl) T.g_Unreachable rfl) (pa_cons (pe_glob (v := .ref T.a_NoEnd) (by rfl) T.g_NoEnd rfl) (pa_cons (pe_glob (v := .ref T.a_BadRing) (by rfl) T.g_BadRing rfl) (pa_cons (pe_glob (v := .ref T.a_TextError) (by rfl) T.g_TextError rfl) (pa_cons (pe_glob (v := .ref T.a_BareLoop) (by rfl) T.g_BareLoop rfl) (pa_cons (pe_glob (v := .ref T.a_BadStart) (by rfl) T.g_BadStart rfl) (pa_cons (pe_glob (v := .ref T.a_BadRun) (by rfl) T.g_BadRun rfl) (pa_cons (pe_glob (v := .ref T.a_NotStanding) (by rfl) T.g_NotStanding rfl) pa_nil))))))))) (by show 9 ≤ sizeLine; rw [sizeLine_eq]; omega) (b_var 0))) (ss_one (s_ret (m_of_b b_bl))) ss_nil)
    (ss_cons (s_if (t_val (b_isxT hh (cs := [.ref T.a_BadStay, .ref T.a_TooLarge, .ref T.a_WildProgram, .ref T.a_NoWild, .ref T.a_BadWord, .ref T.a_BadChange, .ref T.a_BadDoors, .ref T.a_BadOrder, .ref T.a_MixedGraphs]) (ws := [.ref T.a_BadStay, .ref T.a_TooLarge, .ref T.a_WildProgram, .ref T.a_NoWild, .ref T.a_BadWord, .ref T.a_BadChange, .ref T.a_BadDoors, .ref T.a_BadOrder, .ref T.a_MixedGraphs]) (by rfl) T.z_isinstance (.cons (.own _) (.cons (.own _) (.cons (.own _) (.cons (.own _) (.cons (.own _) (.cons (.own _) (.cons (.own _) (.cons (.own _) (.cons (.own _) .nil))))))))) (pa_cons (pe_glob (v := .ref T.a_BadStay) (by rfl) T.g_BadStay rfl) (pa_cons (pe_glob (v := .ref T.a_TooLarge) (by rfl) T.g_TooLarge rfl) (pa_cons (pe_glob (v := .ref T.a_WildProgram) (by rfl) T.g_WildProgram rfl) (pa_cons (pe_glob (v := .ref T.a_NoWild) (by rfl) T.g_NoWild rfl) (pa_cons (pe_glob (v := .ref T.a_BadWord) (by rfl) T.g_BadWord rfl) (pa_cons (pe_glob (v := .ref T.a_BadChange) (by rfl) T.g_BadChange rfl) (pa_cons (pe_glob (v := .ref T.a_BadDoors) (by rfl) T.g_BadDoors rfl) (pa_cons (pe_glob (v := .ref T.a_BadOrder) (by rfl) T.g_BadOrder rfl) (pa_cons (pe_glob (v := .ref T.a_MixedGraphs) (by rfl) T.g_MixedGraphs rfl) pa_nil))))))))) (by show 9 ≤ sizeLine; rw [sizeLine_eq]; omega) (b_var 0))) (ss_one (s_ret (m_of_b b_bl))) ss_nil)
    (ss_one (s_ret (m_of_b (b_and (b_isx1 hh (by rfl) T.z_isinstance (.own _) (pe_glob (v := .ref T.a_Incomplete) (by rfl) T.g_Incomplete rfl) (b_var 0)) (b_and (b_isx1 hh (by rfl) T.z_isinstance (.ty _) (pe_bltn (v := .ty "ValueError") (by rfl) T.z_ValueError (by decide +kernel) rfl) (b_var 0)) (b_one (b_not (b_isxT hh (cs := [.ref T.a_NotOver, .ref T.a_DeskError]) (ws := [.ref T.a_NotOver, .ref T.a_DeskError]) (by rfl) T.z_isinstance (.cons (.own _) (.cons (.own _) .nil)) (pa_cons (pe_glob (v := .ref T.a_NotOver) (by rfl) T.g_NotOver rfl) (pa_cons (pe_glob (v := .ref T.a_DeskError) (by rfl) T.g_DeskError rfl) pa_nil)) (by show 2 ≤ sizeLine; rw [sizeLine_eq]; omega) (b_var 0)))))))))))
/-! ### _law_lies -/
theorem sc_law_lies : FnScope ["_law_lists_here", "_law_beats_here", "_law_handed", "_law_passed", "_law_lengths", "_law_whole_here", "_law_line"] ["_law_lists_here", "_law_beats_here"] (defScope s_law_lies) := ⟨rfl, rfl, rfl, by decide +kernel, rfl, by decide +kernel, by decide +kernel⟩
noncomputable def c_law_lies : SM :=
  (sSeq (sFrz 0 (sAsg 2 (eLc [6] (iSeq (eVar 0)) (tgName 6) tcYes (frzE (eList (eVar 6))))))
  (sSeq (sAsg 3 (eList (eVar 1)))
  (sSeq (sFrz 3 (sFrz 2 (sAsg 4 (eFn m_prefixes (a0Cons (eVar 2) (a0Cons (eVar 3) aNil))))))
  (sSeq (sFrz 0 (sIf (tyOr (tyNot (eTest (eFnF m_law_ints (aCons (eVar 4) aNil)))) (eTest (eOp gNe (eVar 4) (frzE (eLc [6] (iSeq (eVar 0)) (tgName 6) tcYes (eFnF m_law_prefix (aCons (eVar 6) (aCons (eVar 1) aNil))))))))
  (sRet (own0 (eC (.bl false))))
  sNext))
  (sSeq (sApp 4 (own0 (eC (.int 7))))
  (sSeq (sAsg 5 (own0 (eFnF m_is_complete (aCons (eVar 2) (aCons (eVar 3) aNil)))))
  (sRet (own0 (eAnd (eUn (gIsi "bool") (eVar 5)) (eAnd (eOp gEq (eVar 5) (eFnF m_law_whole (aCons (eVar 0) (aCons (eVar 1) aNil)))) (eAnd (eOp gEq (eVar 2) (eVar 0)) (eOp gEq (eVar 3) (eVar 1)))))))))))))
noncomputable def m_law_lies : FM := fnM 2 7 c_law_lies
theorem ok_law_lies (T : Txt K mg) : FnOk P w K mg base (L2N.CX P w) 3 T.a_law_lies T.fd_law_lies ["_law_lists_here", "_law_beats_here"] (spM K m_law_lies) :=
  fn_okM (k := 2) (F := c_law_lies) 2 7 rfl rfl T.F_law_lies sc_law_lies fun cdv A outer s H E hr => by
    unfold c_law_lies 
    exact (ss_cons (s_frz 0 (s_setLc (own := [("_law_line", 6)]) (i := 2) rfl sc_law_lies.nd rfl rfl (sw_true rfl rfl rfl (by decide +kernel)) (i_list (b_var 0)) (blkOk_by (N := ["_law_lists_here", "_law_beats_here", "_law_handed", "_law_passed", "_law_lengths", "_law_whole_here", "_law_line"]) (sc := defScope s_law_lies) (own := [("_law_line", 6)]) (by decide +kernel)) (tw_name (by decide)) (fun _ _ _ _ _ => (pg_name (i := 6) sc_law_lies.nd rfl (Or.inl rfl))) (fun _ _ _ _ _ => c_nil) (fun _ _ _ _ _ => (b_of_m (m_list (by rfl) T.z_list (b_var 6))))))
    (ss_cons (s_set (i := 3) sc_law_lies.nd rfl (Or.inl rfl) (m_list (by rfl) T.z_list (b_var 1)))
    (ss_cons (s_frz 3 (s_frz 2 (s_set (i := 4) sc_law_lies.nd rfl (Or.inl rfl) (m_call (ok_prefixes T) takes_cx (hr.mono (by decide)) (by rfl) T.g_prefixes T.k_prefixes T.b_prefixes (a_cons (b_var 2) (a_cons (b_var 3) a_nil))))))
    (ss_cons (s_frz 0 (s_if (PW.pt (w_or (t_not (t_val (b_callF (ok_law_ints T) takes_cx (hr.mono (by decide)) (by rfl) T.g_law_ints T.k_law_ints T.b_law_ints (ah_cons (b_var 4) ah_nil)))) (w_or1 (t_cmp (op_neA (units_cx hr)) ok_ne (b_var 4) (b_of_m (m_lc (own := [("_law_line", 6)]) rfl sc_law_lies.nd (i_list (b_var 0)) (blkOk_by (N := ["_law_lists_here", "_law_beats_here", "_law_handed", "_law_passed", "_law_lengths", "_law_whole_here", "_law_line"]) (sc := defScope s_law_lies) (own := [("_law_line", 6)]) (by decide +kernel)) (tw_name (by decide)) (fun _ _ _ _ _ => (pg_name (i := 6) sc_law_lies.nd rfl (Or.inl rfl))) (fun _ _ _ _ _ => c_nil) (fun _ _ _ _ _ => (b_callF (ok_law_prefix T) takesN0 (hr.mono (by decide)) (by rfl) T.g_law_prefix T.k_law_prefix T.b_law_prefix (ah_cons (b_var 6) (ah_cons (b_var 1) ah_nil)))))) (nomark _))))) (ss_one (s_ret (m_of_b b_bl))) ss_nil))
    (ss_cons (s_app 4 (m_of_b b_int))
    (ss_cons (s_set (i := 5) sc_law_lies.nd rfl (Or.inl rfl) (m_of_b (b_callF (ok_is_complete T) takes_cx (hr.mono (by decide)) (by rfl) T.g_is_complete T.k_is_complete T.b_is_complete (ah_cons (b_var 2) (ah_cons (b_var 3) ah_nil)))))
    (ss_one (s_ret (m_of_b (b_and (b_isi "bool" (by rfl) T.z_isinstance (by rfl) T.z_bool (by decide +kernel) (b_var 5)) (b_and (b_cmp (op_eqA (units_cx hr)) ok_eq (b_var 5) (b_callF (ok_law_whole T) takes_cx (hr.mono (by decide)) (by rfl) T.g_law_whole T.k_law_whole T.b_law_whole (ah_cons (b_var 0) (ah_cons (b_var 1) ah_nil))) (nomark _)) (b_and (b_cmp (op_eqA (units_cx hr)) ok_eq (b_var 2) (b_var 0) (nomark _)) (b_one (b_cmp (op_eqA (units_cx hr)) ok_eq (b_var 3) (b_var 1) (nomark _)))))))))))))))
/-! ### _law_told -/
theorem sc_law_told : FnScope ["_law_lists_here", "_law_beats_here", "_law_handed", "_law_passed", "_law_complete", "_law_e", "_law_rest", "_law_line"] ["_law_lists_here", "_law_beats_here"] (defScope s_law_told) := ⟨rfl, rfl, rfl, by decide +kernel, rfl, by decide +kernel, by decide +kernel⟩
noncomputable def c_law_told (T : Txt K mg) : SM :=
  (sSeq (sIf (tyNot (eTest (eFnF m_law_lies (aCons (eVar 0) (aCons (eVar 1) aNil)))))
  (sRet (own0 (eC (.bl false))))
  sNext)
  (sSeq (sFrz 0 (sAsg 2 (eLc [7] (iSeq (eVar 0)) (tgName 7) tcYes (frzE (eList (eVar 7))))))
  (sSeq (sAsg 3 (eList (eVar 1)))
  (sSeq (sAsg 4 (own0 (eFnF m_law_whole (aCons (eVar 0) (aCons (eVar 1) aNil)))))
  (sSeq (sTry K (.ref T.a_ForeworthError) 5
  (sFrz 3 (sFrz 2 (sAsg 6 (eFn (m_thin T) (a0Cons (eVar 2) (a0Cons (eVar 3) aNil))))))
  (fun a0 e0 => (sRet (own0 (eAnd (eNot (eVar 4)) (eAnd (eFnF (m_law_is_incomplete T a0 e0) (aCons (eVar 5) aNil)) (eAnd (eOp gEq (eVar 2) (eVar 0)) (eOp gEq (eVar 3) (eVar 1)))))))))
  (sSeq (sFrz 1 (sFrz 0 (sIf (tyOr (tyNot (eTest (eVar 4))) (tyOr (tyNot (eTest (eFnF m_law_ints (aCons (eVar 6) aNil)))) (eTest (eOp gNe (eVar 6) (frzE (eFn m_law_thinned (a0Cons (eVar 0) (a0Cons (eVar 1) aNil))))))))
  (sRet (own0 (eC (.bl false))))
  sNext)))
  (sSeq (sApp 6 (own0 (eC (.int 7))))
  (sRet (own0 (eAnd (eOp gEq (eVar 2) (eVar 0)) (eOp gEq (eVar 3) (eVar 1))))))))))))
noncomputable def m_law_told (T : Txt K mg) : FM := fnM 2 8 (c_law_told T)
theorem ok_law_told (T : Txt K mg) : FnOk P w K mg base (L2N.CX P w) 4 T.a_law_told T.fd_law_told ["_law_lists_here", "_law_beats_here"] (spM K (m_law_told T)) :=
  fn_okM (k := 3) (F := (c_law_told T)) 2 8 rfl rfl T.F_law_told sc_law_told fun cdv A outer s H E hr => by
    unfold c_law_told 
    exact (ss_cons (s_if (t_not (t_val (b_callF (ok_law_lies T) takes_cx (hr.mono (by decide)) (by rfl) T.g_law_lies T.k_law_lies T.b_law_lies (ah_cons (b_var 0) (ah_cons (b_var 1) ah_nil))))) (ss_one (s_ret (m_of_b b_bl))) ss_nil)
    (ss_cons (s_frz 0 (s_setLc (own := [("_law_line", 7)]) (i := 2) rfl sc_law_told.nd rfl rfl (sw_true rfl rfl rfl (by decide +kernel)) (i_list (b_var 0)) (blkOk_by (N := ["_law_lists_here", "_law_beats_here", "_law_handed", "_law_passed", "_law_complete", "_law_e", "_law_rest", "_law_line"]) (sc := defScope s_law_told) (own := [("_law_line", 7)]) (by decide +kernel)) (tw_name (by decide)) (fun _ _ _ _ _ => (pg_name (i := 7) sc_law_told.nd rfl (Or.inl rfl))) (fun _ _ _ _ _ => c_nil) (fun _ _ _ _ _ => (b_of_m (m_list (by rfl) T.z_list (b_var 7))))))
    (ss_cons (s_set (i := 3) sc_law_told.nd rfl (Or.inl rfl) (m_list (by rfl) T.z_list (b_var 1)))
    (ss_cons (s_set (i := 4) sc_law_told.nd rfl (Or.inl rfl) (m_of_b (b_callF (ok_law_whole T) takes_cx (hr.mono (by decide)) (by rfl) T.g_law_whole T.k_law_whole T.b_law_whole (ah_cons (b_var 0) (ah_cons (b_var 1) ah_nil)))))
    (ss_cons (s_try (i := 5) rfl rfl sc_law_told.nd rfl rfl ⟨by rfl, by decide, .inl T.g_ForeworthError⟩ takes_cx (fun W1 pn1 xe1 tk1 pp1 => (ss_one (s_frz 3 (s_frz 2 (s_set (i := 6) sc_law_told.nd rfl (Or.inl rfl) (m_call (ok_thin T) tk1 (hr.mono (by decide)) (by rfl) T.g_thin T.k_thin T.b_thin (a_cons (b_var 2) (a_cons (b_var 3) a_nil)))))))) (fun a0 pn0 e0 hh => (ss_one (s_ret (m_of_b (b_and (b_not (b_var 4)) (b_and (b_callX (ok_law_is_incomplete T) takesN0 hh (room_sx (hr.mono (by decide))) (by rfl) T.g_law_is_incomplete T.k_law_is_incomplete T.b_law_is_incomplete (ah_cons (b_var 5) ah_nil)) (b_and (b_cmp (op_eqA hr.units) ok_eq (b_var 2) (b_var 0) (nomark _)) (b_one (b_cmp (op_eqA hr.units) ok_eq (b_var 3) (b_var 1) (nomark _)))))))))))
    (ss_cons (s_frz 1 (s_frz 0 (s_if (PW.pt (w_or (t_not (t_val (b_var 4))) (w_or (t_not (t_val (b_callF (ok_law_ints T) takes_cx (hr.mono (by decide)) (by rfl) T.g_law_ints T.k_law_ints T.b_law_ints (ah_cons (b_var 6) ah_nil)))) (w_or1 (t_cmp (op_neA (units_cx hr)) ok_ne (b_var 6) (b_of_m (m_call (ok_law_thinned T) takes_cx (hr.mono (by decide)) (by rfl) T.g_law_thinned T.k_law_thinned T.b_law_thinned (a_cons (b_var 0) (a_cons (b_var 1) a_nil)))) (nomark _)))))) (ss_one (s_ret (m_of_b b_bl))) ss_nil)))
    (ss_cons (s_app 6 (m_of_b b_int))
    (ss_one (s_ret (m_of_b (b_and (b_cmp (op_eqA (units_cx hr)) ok_eq (b_var 2) (b_var 0) (nomark _)) (b_one (b_cmp (op_eqA (units_cx hr)) ok_eq (b_var 3) (b_var 1) (nomark _))))))))))))))
/-! ### law -/
theorem sc_law : FnScope ["_law_script", "_law_turn", "_law_lists_here", "_law_beats_here", "_law_row", "_law_place", "_law_less", "_law_more", "_law_many", "_law_times", "_law_line"] ["_law_script"] (defScope s_law) := ⟨rfl, rfl, rfl, by decide +kernel, rfl, by decide +kernel, by decide +kernel⟩
noncomputable def c_law (T : Txt K mg) : SM :=
  (sSeq (sAsg 1 (own0 (eIx (frzE (eFn m_law_digits (a0Cons (eFnF m_law_seed (aCons (eVar 0) (aCons (eC (.int 0)) aNil))) (a0Cons (eC (.int 1)) (a0Cons (eC (.int 55440)) aNil))))) (eC (.int 0)))))
  (sSeq (sFrz 0 (sAsg 2 (eFn m_law_lists (a0Cons (eVar 0) (a0Cons (eVar 1) aNil)))))
  (sSeq (sFrz 2 (sFrz 0 (sAsg 3 (eFn m_law_beats (a0Cons (eVar 0) (a0Cons (eVar 2) (a0Cons (eVar 1) aNil)))))))
  (sSeq (sAsg 4 (eFn m_law_digits (a0Cons (eFnF m_law_seed (aCons (eVar 0) (aCons (eC (.int 8)) aNil))) (a0Cons (eC (.int 5)) (a0Cons (eC (.int 55440)) aNil)))))
  (sSeq (sAsg 5 (own0 (eOp gMod (eCall gToInt (aCons (eIx (eVar 4) (eC (.int 0))) aNil)) (eCall gMax2 (aCons (eC (.int 1)) (aCons (eCall gLen (aCons (eVar 3) aNil)) aNil))))))
  (sSeq (sAsg 6 (eCat (frzE (eSl (eVar 3) pNone (pSome (eVar 5)))) (frzE (eSl (eVar 3) (pSome (eOp gAdd (eVar 5) (eC (.int 1)))) pNone))))
  (sSeq (sAsg 7 (eCat (frzE (eCat (frzE (eSl (eVar 3) pNone (pSome (eVar 5)))) (frzE (eLst (a0Cons (eFnF m_law_symbol (aCons (eVar 1) (aCons (eIx (eVar 4) (eC (.int 1))) aNil))) aNil))))) (frzE (eSl (eVar 3) (pSome (eVar 5)) pNone))))
  (sSeq (sIf (eTest (eOp gEq (eOp gMod (eCall gToInt (aCons (eIx (eVar 4) (eC (.int 2))) aNil)) (eC (.int 8))) (eC (.int 5))))
  (sSeq (sAsg 8 (own0 (eOp gAdd (eC (.int 1)) (eOp gMod (eCall gToInt (aCons (eIx (eVar 4) (eC (.int 3))) aNil)) (eC (.int 16))))))
  (sSeq (sAsg 9 (own0 (eOp gAdd (eC (.int 1)) (eOp gMod (eCall gToInt (aCons (eIx (eVar 4) (eC (.int 4))) aNil)) (eC (.int 16))))))
  (sFrz 2 (sIf (tyNot (eTest (eFnF m_law_lies (aCons (frzE (eLc [10] (iSeq (eVar 2)) (tgName 10) tcYes (frzE (eRep (eVar 10) (eVar 8))))) (aCons (frzE (eRep (eVar 3) (eVar 9))) aNil)))))
  (sRet (own0 (eC (.bl false))))
  sNext))))
  sNext)
  (sSeq (sIf (tyOr (tyNot (eTest (eFnF (m_law_told T) (aCons (eVar 2) (aCons (eVar 3) aNil))))) (tyNot (eTest (eFnF (m_law_told T) (aCons (eVar 2) (aCons (eVar 6) aNil))))))
  (sRet (own0 (eC (.bl false))))
  sNext)
  (sRet (own0 (eAnd (eFnF (m_law_told T) (aCons (eVar 2) (aCons (eVar 7) aNil))) (eFnF (m_law_told T) (aCons (eVar 2) (aCons (eVar 3) aNil)))))))))))))))
noncomputable def m_law (T : Txt K mg) : FM := fnM 1 11 (c_law T)
theorem ok_law (T : Txt K mg) : FnOk P w K mg base (L2N.CX P w) 5 T.a_law T.fd_law ["_law_script"] (spM K (m_law T)) :=
  fn_okM (k := 4) (F := (c_law T)) 1 11 rfl rfl T.F_law sc_law fun cdv A outer s H E hr => by
    unfold c_law 
    exact (ss_cons (s_set (i := 1) sc_law.nd rfl (Or.inl rfl) (m_of_b (b_ix (b_of_m (m_call (ok_law_digits T) takes_cx (hr.mono (by decide)) (by rfl) T.g_law_digits T.k_law_digits T.b_law_digits (a_cons (b_callF (ok_law_seed T) takes_cx (hr.mono (by decide)) (by rfl) T.g_law_seed T.k_law_seed T.b_law_seed (ah_cons (b_var 0) (ah_cons b_int ah_nil))) (a_cons b_int (a_cons b_int a_nil))))) b_int)))
    (ss_cons (s_frz 0 (s_set (i := 2) sc_law.nd rfl (Or.inl rfl) (m_call (ok_law_lists T) takes_cx (hr.mono (by decide)) (by rfl) T.g_law_lists T.k_law_lists T.b_law_lists (a_cons (b_var 0) (a_cons (b_var 1) a_nil)))))
    (ss_cons (s_frz 2 (s_frz 0 (s_set (i := 3) sc_law.nd rfl (Or.inl rfl) (m_call (ok_law_beats T) takes_cx (hr.mono (by decide)) (by rfl) T.g_law_beats T.k_law_beats T.b_law_beats (a_cons (b_var 0) (a_cons (b_var 2) (a_cons (b_var 1) a_nil)))))))
    (ss_cons (s_set (i := 4) sc_law.nd rfl (Or.inl rfl) (m_call (ok_law_digits T) takes_cx (hr.mono (by decide)) (by rfl) T.g_law_digits T.k_law_digits T.b_law_digits (a_cons (b_callF (ok_law_seed T) takes_cx (hr.mono (by decide)) (by rfl) T.g_law_seed T.k_law_seed T.b_law_seed (ah_cons (b_var 0) (ah_cons b_int ah_nil))) (a_cons b_int (a_cons b_int a_nil)))))
    (ss_cons (s_set (i := 5) sc_law.nd rfl (Or.inl rfl) (m_of_b (b_mod (b_toInt (by rfl) T.z_int (ah_cons (b_ix (b_var 4) b_int) ah_nil)) (b_max2 rfl (by rfl) T.z_max (ah_cons b_int (ah_cons (b_len (by rfl) T.z_len (ah_cons (b_var 3) ah_nil)) ah_nil))))))
    (ss_cons (s_set (i := 6) sc_law.nd rfl (Or.inl rfl) (m_cat (b_of_m (m_sl (b_var 3) o_none (o_some (b_var 5)))) (b_of_m (m_sl (b_var 3) (o_some (b_add (b_var 5) b_int)) o_none))))
    (ss_cons (s_set (i := 7) sc_law.nd rfl (Or.inl rfl) (m_cat (b_of_m (m_cat (b_of_m (m_sl (b_var 3) o_none (o_some (b_var 5)))) (b_of_m (m_lst (a_cons (b_callF (ok_law_symbol T) takes_cx (hr.mono (by decide)) (by rfl) T.g_law_symbol T.k_law_symbol T.b_law_symbol (ah_cons (b_var 1) (ah_cons (b_ix (b_var 4) b_int) ah_nil))) a_nil))))) (b_of_m (m_sl (b_var 3) (o_some (b_var 5)) o_none))))
    (ss_cons (s_if (t_cmp (op_eqA (units_cx hr)) ok_eq (b_mod (b_toInt (by rfl) T.z_int (ah_cons (b_ix (b_var 4) b_int) ah_nil)) b_int) b_int (nomark _)) (ss_cons (s_set (i := 8) sc_law.nd rfl (Or.inr rfl) (m_of_b (b_add b_int (b_mod (b_toInt (by rfl) T.z_int (ah_cons (b_ix (b_var 4) b_int) ah_nil)) b_int))))
    (ss_cons (s_set (i := 9) sc_law.nd rfl (Or.inl rfl) (m_of_b (b_add b_int (b_mod (b_toInt (by rfl) T.z_int (ah_cons (b_ix (b_var 4) b_int) ah_nil)) b_int))))
    (ss_one (s_frz 2 (s_if (t_not (t_val (b_callF (ok_law_lies T) takes_cx (hr.mono (by decide)) (by rfl) T.g_law_lies T.k_law_lies T.b_law_lies (ah_cons (b_of_m (m_lc (own := [("_law_line", 10)]) rfl sc_law.nd (i_list (b_var 2)) (blkOk_by (N := ["_law_script", "_law_turn", "_law_lists_here", "_law_beats_here", "_law_row", "_law_place", "_law_less", "_law_more", "_law_many", "_law_times", "_law_line"]) (sc := defScope s_law) (own := [("_law_line", 10)]) (by decide +kernel)) (tw_name (by decide)) (fun _ _ _ _ _ => (pg_name (i := 10) sc_law.nd rfl (Or.inl rfl))) (fun _ _ _ _ _ => c_nil) (fun _ _ _ _ _ => (b_of_m (m_rep (b_var 10) (b_var 8)))))) (ah_cons (b_of_m (m_rep (b_var 3) (b_var 9))) ah_nil))))) (ss_one (s_ret (m_of_b b_bl))) ss_nil))))) ss_nil)
    (ss_cons (s_if (PW.pt (w_or (t_not (t_val (b_callF (ok_law_told T) takes_cx (hr.mono (by decide)) (by rfl) T.g_law_told T.k_law_told T.b_law_told (ah_cons (b_var 2) (ah_cons (b_var 3) ah_nil))))) (w_or1 (t_not (t_val (b_callF (ok_law_told T) takes_cx (hr.mono (by decide)) (by rfl) T.g_law_told T.k_law_told T.b_law_told (ah_cons (b_var 2) (ah_cons (b_var 6) ah_nil)))))))) (ss_one (s_ret (m_of_b b_bl))) ss_nil)
    (ss_one (s_ret (m_of_b (b_and (b_callF (ok_law_told T) takes_cx (hr.mono (by decide)) (by rfl) T.g_law_told T.k_law_told T.b_law_told (ah_cons (b_var 2) (ah_cons (b_var 7) ah_nil))) (b_one (b_callF (ok_law_told T) takes_cx (hr.mono (by decide)) (by rfl) T.g_law_told T.k_law_told T.b_law_told (ah_cons (b_var 2) (ah_cons (b_var 3) ah_nil)))))))))))))))))
end
end K13

namespace K13
open PySem L2 Mv
/-- how far a run is after a schedule, from place d on -/
def pre (run : List Int) : List Int → Nat → Nat
  | [], d => d
  | x :: xs, d => pre run xs (if run[d]? = some x then d + 1 else d)
theorem pre_append (run : List Int) : ∀ (a b : List Int) (d : Nat), pre run (a ++ b) d = pre run b (pre run a d)
  | [], b, d => rfl
  | x :: a, b, d => by rw [List.cons_append, pre, pre, pre_append run a b]
theorem il_get0 {xs : List Int} {n d : Nat} (h : d < xs.length) : ixD n (il xs) (.int (d : Int)) = some (n - 1, .int (xs[d])) := il_ix (List.getElem?_eq_getElem h)
theorem prefix_step (run : List Int) (B : Sl) (d : Nat) (x : Int) : c_prefix_length_1 [.v 0 (il run), B, .v 0 (.int d), .v 0 (.int x)] = .nx [.v 0 (il run), B, .v 0 (.int (if run[d]? = some x then d + 1 else d : Nat)), .v 0 (.int x)] := by
  unfold c_prefix_length_1
  by_cases h : d < run.length
  · by_cases hx : run[d] = x
    · simp [sIf, tyAnd, eTest, eOp, eVar, eCall, aCons, aNil, gLt, gInt, il_len, eIx, sAsg, own0, sNext, gAdd, eC, h, gEq_int, il_get0, Int.ofNat_lt, hx]
    · simp [sIf, tyAnd, eTest, eOp, eVar, eCall, aCons, aNil, gLt, gInt, il_len, eIx, sAsg, own0, sNext, gAdd, eC, h, gEq_int, il_get0, Int.ofNat_lt, hx]
  · simp [sIf, tyAnd, eTest, eOp, eVar, eCall, aCons, aNil, gLt, gInt, il_len, eIx, sAsg, own0, sNext, gAdd, eC, h]
theorem v_prefix (run sched : List Int) : m_prefix_length [il run, il sched] = .ok (0, .int (pre run sched 0)) := by
  unfold m_prefix_length fnM c_prefix_length
  obtain ⟨s', h1, o, h2⟩ := loop_nx (step := stepF (tgName 3) c_prefix_length_1) (fun i s => ∃ o, s = [.v 0 (il run), .v 0 (il sched), .v 0 (.int (pre run (sched.take i) 0)), o]) (sched.map .int) [.v 0 (il run), .v 0 (il sched), .v 0 (.int 0), .un] ⟨_, rfl⟩ (by
    rintro i d s hd ⟨o, rfl⟩
    rw [List.getElem?_map] at hd
    cases hx : sched[i]? with
    | none => rw [hx] at hd; cases hd
    | some x =>
      rw [hx] at hd
      cases hd
      refine ⟨_, .inl (by simp only [stepF, tgName, List.set_cons_succ, List.set_cons_zero]; exact prefix_step run _ _ x), .v 0 (.int x), ?_⟩
      rw [List.take_succ, hx, Option.toList_some, pre_append]
      rfl)
  rw [List.length_map, List.take_length] at h2
  subst h2
  simp only [List.length_cons, List.length_nil, List.map_cons, List.map_nil, List.replicate, List.cons_append, List.nil_append, if_true]
  simp [sSeq, sAsg, own0, eC, sFrz, frzSl, sFor, iSeq, eVar, il] at h1 ⊢
  simp [h1, sRetV]

/-! the plain law of prefixes -/
theorem pre_le (run : List Int) : ∀ (s : List Int) (d : Nat), d ≤ run.length → pre run s d ≤ run.length
  | [], d, h => h
  | x :: s, d, h => by
    rw [pre]
    refine pre_le run s _ ?_
    split
    · rename_i q
      obtain ⟨z, _⟩ := List.getElem?_eq_some_iff.mp q
      omega
    · exact h
theorem pre_full (run : List Int) : ∀ (s : List Int) (d : Nat), d ≤ run.length → (run.length ≤ pre run s d ↔ (run.drop d).Sublist s)
  | [], d, h => by
    rw [pre, List.sublist_nil, List.drop_eq_nil_iff]
  | x :: s, d, h => by
    rw [pre]
    by_cases hd : d < run.length
    · have e := List.drop_eq_getElem_cons hd
      by_cases hx : run[d] = x
      · rw [if_pos (by rw [List.getElem?_eq_getElem hd, hx]), pre_full run s (d + 1) hd, e, hx, List.cons_sublist_cons]
      · rw [if_neg (by rw [List.getElem?_eq_getElem hd]; exact fun z => hx (Option.some.inj z)), pre_full run s d h, e]
        constructor
        · exact fun q => q.trans (List.sublist_cons_self _ _)
        · intro q
          rcases List.sublist_cons_iff.mp q with q | ⟨r, q, _⟩
          · exact q
          · injection q with q1 q2
            exact absurd q1 hx
    · have e : d = run.length := by omega
      have hn : run[d]? = none := List.getElem?_eq_none (by omega)
      rw [hn, if_neg (by simp), pre_full run s d h, List.drop_eq_nil_iff.mpr (by omega)]
      simp
/-- all runs are whole in the schedule -/
def comp (runs : List (List Int)) (s : List Int) : Bool := runs.all fun r => decide (r.length ≤ pre r s 0)
theorem v_prefixes (runs : List (List Int)) (s : List Int) (hl : runs.length < 10000000) : m_prefixes [ill runs, il s] = .ok (1, il (runs.map fun r => (pre r s 0 : Int))) := by
  unfold m_prefixes fnM c_prefixes
  have h := lcL_map (tgt := tgName 2) (fe := eFnF m_prefix_length (aCons (eVar 2) (aCons (eVar 1) aNil))) (sw := [.v 0 (ill runs), .v 0 (il s), .un]) (f := il) (g := fun r => .int (pre r s 0)) runs fun x _ => ⟨_, rfl, by
    simp [eFnF, aCons, eVar, aNil, v_prefix, flat]⟩
  simp [sFrz, frzSl, sRet, eLc, iSeq, eVar, ill, wipeS] at h ⊢
  rw [if_pos hl, h]
  simp [il]
theorem v_complete (runs : List (List Int)) (s : List Int) : m_is_complete [ill runs, il s] = .ok (0, .bl (comp runs s)) := by
  unfold m_is_complete fnM c_is_complete
  have h := loop_all (step := stepF (tgName 2) c_is_complete_1) (f := il) (p := fun r => decide (r.length ≤ pre r s 0)) (A := fun o => [.v 0 (ill runs), .v 0 (il s), o]) (n := 0) (v := .bl false) runs .un fun x _ o => by
    have e : (stepF (tgName 2) c_is_complete_1) (il x) [.v 0 (ill runs), .v 0 (il s), o] = c_is_complete_1 [.v 0 (ill runs), .v 0 (il s), .v 0 (il x)] := rfl
    rw [e]
    unfold c_is_complete_1
    constructor
    · intro q
      have q' : ¬ pre x s 0 < x.length := by have := of_decide_eq_true q; omega
      exact ⟨.v 0 (il x), by simp [sIf, eTest, eOp, eFnF, aCons, eVar, aNil, v_prefix, flat, eCall, il_len, gLt, gInt, q', sNext]⟩
    · intro q
      have q' : pre x s 0 < x.length := by have := of_decide_eq_false q; omega
      simp [sIf, eTest, eOp, eFnF, aCons, eVar, aNil, v_prefix, flat, eCall, il_len, gLt, gInt, q', sRet, own0, eC]
  simp only [List.length_cons, List.length_nil, List.map_cons, List.map_nil, List.replicate, List.cons_append, List.nil_append, if_true]
  have e0 : (sFrz 0 (sFor (iSeq (eVar 0)) (tgName 2) c_is_complete_1)) [.v 0 (ill runs), .v 0 (il s), .un] = loop (stepF (tgName 2) c_is_complete_1) (runs.map il) [.v 0 (ill runs), .v 0 (il s), .un] := rfl
  cases hc : runs.all (fun r => decide (r.length ≤ pre r s 0)) with
  | true =>
    obtain ⟨o', h1⟩ := h.1 hc
    rw [seq_nx (e0.trans h1)]
    simp [sRet, own0, eC, comp, hc]
  | false =>
    have h1 := h.2 hc
    rw [seq_rt (e0.trans h1)]
    simp [comp, hc]

/-! latest places -/
theorem latest_step (run s : List Int) (ps : List Int) (left b : Nat) (o4 : Sl) (x : Int) (hp : ps.length = run.length) (hl : left ≤ run.length) (hb : b < s.length) (hx : s[s.length - 1 - b]? = some x) :
    c_latest_places_1 [.v 0 (il run), .v 0 (il s), .v 1 (il ps), .v 0 (.int left), .v 0 (.int (0 + (b : Int))), o4] =
      if 0 < left ∧ run[left - 1]? = some x then .nx [.v 0 (il run), .v 0 (il s), .v 1 (il (ps.set (left - 1) ((s.length - 1 - b : Nat) : Int))), .v 0 (.int ((left - 1 : Nat) : Int)), .v 0 (.int (0 + (b : Int))), .v 0 (.int ((s.length - 1 - b : Nat) : Int))]
      else .nx [.v 0 (il run), .v 0 (il s), .v 1 (il ps), .v 0 (.int left), .v 0 (.int (0 + (b : Int))), .v 0 (.int ((s.length - 1 - b : Nat) : Int))] := by
  unfold c_latest_places_1
  have e1 : ((s.length : Int) - 1 - (0 + (b : Int))) = ((s.length - 1 - b : Nat) : Int) := by omega
  have a1 : (sAsg 5 (own0 (eOp Mv.gSub (eOp Mv.gSub (eCall gLen (aCons (eVar 1) aNil)) (eC (.int 1))) (eVar 4)))) [.v 0 (il run), .v 0 (il s), .v 1 (il ps), .v 0 (.int left), .v 0 (.int (0 + (b : Int))), o4] = .nx [.v 0 (il run), .v 0 (il s), .v 1 (il ps), .v 0 (.int left), .v 0 (.int (0 + (b : Int))), .v 0 (.int ((s.length - 1 - b : Nat) : Int))] := by
    rw [← e1]
    simp [sAsg, own0, eOp, Mv.gSub, gInt, eCall, il_len, aCons, eVar, aNil, eC]
  rw [seq_nx a1]
  by_cases h0 : 0 < left
  · have e2 : ((left : Int) - 1) = ((left - 1 : Nat) : Int) := by omega
    have h1 : left - 1 < run.length := by omega
    have g1 : run[left - 1]? = some run[left - 1] := List.getElem?_eq_getElem h1
    have i1 : ixD 0 (il run) (.int ((left - 1 : Nat) : Int)) = some (0, .int run[left - 1]) := il_ix g1
    have i2 : ixD 0 (il s) (.int ((s.length - 1 - b : Nat) : Int)) = some (0, .int x) := il_ix hx
    by_cases hx2 : run[left - 1] = x
    · rw [if_pos ⟨h0, by rw [g1, hx2]⟩]
      have t : (tyAnd (eTest (eOp gGt (eVar 3) (eC (.int 0)))) (eTest (eOp gEq (eIx (eVar 0) (eOp Mv.gSub (eVar 3) (eC (.int 1)))) (eIx (eVar 1) (eVar 5))))) [.v 0 (il run), .v 0 (il s), .v 1 (il ps), .v 0 (.int left), .v 0 (.int (0 + (b : Int))), .v 0 (.int ((s.length - 1 - b : Nat) : Int))] = .ok true := by
        simp only [tyAnd, eTest, eOp, eVar, eC, gGt, gInt, List.getElem?_cons_succ, List.getElem?_cons_zero, eIx, Mv.gSub, e2, i1, i2, gEq_int, hx2, decide_true]
        simp [h0]
      unfold sIf
      rw [t]
      have a2 : (sAsg 3 (own0 (eOp Mv.gSub (eVar 3) (eC (.int 1))))) [.v 0 (il run), .v 0 (il s), .v 1 (il ps), .v 0 (.int left), .v 0 (.int (0 + (b : Int))), .v 0 (.int ((s.length - 1 - b : Nat) : Int))] = .nx [.v 0 (il run), .v 0 (il s), .v 1 (il ps), .v 0 (.int ((left - 1 : Nat) : Int)), .v 0 (.int (0 + (b : Int))), .v 0 (.int ((s.length - 1 - b : Nat) : Int))] := by
        rw [← e2]
        simp [sAsg, own0, eOp, Mv.gSub, gInt, eVar, eC]
      show (sSeq _ _) _ = _
      rw [seq_nx a2]
      rw [setI_il (xs := ps) (k := ((left - 1 : Nat) : Int)) (j := left - 1) (v := ((s.length - 1 - b : Nat) : Int)) (m := 0) rfl rfl rfl rfl (by omega)]
      rfl
    · rw [if_neg (by rw [g1]; exact fun z => hx2 (Option.some.inj z.2))]
      have t : (tyAnd (eTest (eOp gGt (eVar 3) (eC (.int 0)))) (eTest (eOp gEq (eIx (eVar 0) (eOp Mv.gSub (eVar 3) (eC (.int 1)))) (eIx (eVar 1) (eVar 5))))) [.v 0 (il run), .v 0 (il s), .v 1 (il ps), .v 0 (.int left), .v 0 (.int (0 + (b : Int))), .v 0 (.int ((s.length - 1 - b : Nat) : Int))] = .ok false := by
        simp only [tyAnd, eTest, eOp, eVar, eC, gGt, gInt, List.getElem?_cons_succ, List.getElem?_cons_zero, eIx, Mv.gSub, e2, i1, i2, gEq_int, hx2, decide_false]
        simp [h0]
      unfold sIf
      rw [t]
      rfl
  · rw [if_neg fun z => h0 z.1]
    have t : (tyAnd (eTest (eOp gGt (eVar 3) (eC (.int 0)))) (eTest (eOp gEq (eIx (eVar 0) (eOp Mv.gSub (eVar 3) (eC (.int 1)))) (eIx (eVar 1) (eVar 5))))) [.v 0 (il run), .v 0 (il s), .v 1 (il ps), .v 0 (.int left), .v 0 (.int (0 + (b : Int))), .v 0 (.int ((s.length - 1 - b : Nat) : Int))] = .ok false := by
      have : left = 0 := by omega
      subst this
      simp [tyAnd, eTest, eOp, eVar, eC, gGt, gInt]
    unfold sIf
    rw [t]
    rfl
/-- what the table says: from place j on, run j is still to be had behind m' exactly if m' is at most its entry -/
def LP (run s : List Int) (ps : List Int) (left : Nat) : Prop := ps.length = run.length ∧ ∀ j, left ≤ j → j < run.length → ∃ p : Nat, ps[j]? = some (p : Int) ∧ ∀ m', (run.drop j).Sublist (s.drop m') ↔ m' ≤ p
theorem latest_loop (run s : List Int) : ∃ s', loop (stepF (tgName 4) c_latest_places_1) (rngD 0 s.length) [.v 0 (il run), .v 0 (il s), .v 1 (il (List.replicate run.length 0)), .v 0 (.int run.length), .un, .un] = .nx s' ∧
    ∃ (left : Nat) (ps : List Int) (o4 o5 : Sl), s' = [.v 0 (il run), .v 0 (il s), .v 1 (il ps), .v 0 (.int left), o4, o5] ∧ left ≤ run.length ∧ (∀ l, l ≤ run.length → ((run.drop l).Sublist (s.drop (s.length - (rngD 0 s.length).length)) ↔ left ≤ l)) ∧ LP run s ps left :=
  loop_nx (step := stepF (tgName 4) c_latest_places_1)
    (fun b st => ∃ (left : Nat) (ps : List Int) (o4 o5 : Sl), st = [.v 0 (il run), .v 0 (il s), .v 1 (il ps), .v 0 (.int left), o4, o5] ∧ left ≤ run.length ∧ (∀ l, l ≤ run.length → ((run.drop l).Sublist (s.drop (s.length - b)) ↔ left ≤ l)) ∧ LP run s ps left)
    (rngD 0 s.length) [.v 0 (il run), .v 0 (il s), .v 1 (il (List.replicate run.length 0)), .v 0 (.int run.length), .un, .un]
    ⟨run.length, _, _, _, rfl, Nat.le_refl _, fun l hl => by
      rw [Nat.sub_zero, List.drop_length, List.sublist_nil, List.drop_eq_nil_iff], by simp, fun j h1 h2 => by omega⟩
    (by
      rintro b d st hd ⟨left, ps, o4, o5, rfl, hle, hsub, hpl, hlp⟩
      obtain ⟨hb, rfl⟩ := rngD_get hd
      have hi : s.length - 1 - b < s.length := by omega
      have hx : s[s.length - 1 - b]? = some s[s.length - 1 - b] := List.getElem?_eq_getElem hi
      have hdr : s.drop (s.length - (b + 1)) = s[s.length - 1 - b] :: s.drop (s.length - b) := by
        have := List.drop_eq_getElem_cons hi
        rw [show s.length - 1 - b + 1 = s.length - b by omega] at this
        rw [show s.length - (b + 1) = s.length - 1 - b by omega]
        exact this
      have st := latest_step run s ps left b o5 _ hpl hle hb hx
      generalize s[s.length - 1 - b] = x at *
      have e : (stepF (tgName 4) c_latest_places_1) (.int (0 + (b : Int))) [.v 0 (il run), .v 0 (il s), .v 1 (il ps), .v 0 (.int left), o4, o5] = c_latest_places_1 [.v 0 (il run), .v 0 (il s), .v 1 (il ps), .v 0 (.int left), .v 0 (.int (0 + (b : Int))), o5] := rfl
      rw [e, st]
      by_cases hc : 0 < left ∧ run[left - 1]? = some x
      · rw [if_pos hc]
        obtain ⟨hc0, hc1⟩ := hc
        have hd1 : run.drop (left - 1) = x :: run.drop left := by
          obtain ⟨hlt, hg⟩ := List.getElem?_eq_some_iff.mp hc1
          have := List.drop_eq_getElem_cons hlt
          rw [hg, show left - 1 + 1 = left by omega] at this
          exact this
        have hno : ∀ l, l < left → ¬ (run.drop l).Sublist (s.drop (s.length - b)) := fun l hl q => by
          have := (hsub l (by omega)).mp q; omega
        refine ⟨_, .inl rfl, left - 1, _, _, _, rfl, by omega, fun l hl => ?_, by simp [hpl], fun j h1 h2 => ?_⟩
        · rw [hdr]
          constructor
          · intro q
            by_cases hlt : left ≤ l
            · omega
            · have hl2 : l < run.length := by omega
              have hdl := List.drop_eq_getElem_cons hl2
              rw [hdl] at q
              rcases List.sublist_cons_iff.mp q with q | ⟨r, q, q2⟩
              · rw [← hdl] at q
                exact absurd q (hno l (by omega))
              · injection q with q1 q3
                subst q3
                have := (hsub (l + 1) (by omega)).mp q2
                omega
          · intro q
            by_cases hlt : left ≤ l
            · exact ((hsub l hl).mpr hlt).trans (List.sublist_cons_self _ _)
            · have : l = left - 1 := by omega
              subst this
              rw [hd1, List.cons_sublist_cons]
              exact (hsub left hle).mpr (Nat.le_refl _)
        · by_cases hj : j = left - 1
          · subst hj
            refine ⟨s.length - 1 - b, by rw [List.getElem?_set_self (by omega)], fun m' => ?_⟩
            constructor
            · intro q
              by_cases hm : m' ≤ s.length - 1 - b
              · exact hm
              · refine absurd (q.trans ?_) (hno (left - 1) (by omega))
                have : m' = (s.length - b) + (m' - (s.length - b)) := by omega
                rw [this, ← List.drop_drop]
                exact List.drop_sublist _ _
            · intro hm
              have q : (run.drop (left - 1)).Sublist (s.drop (s.length - (b + 1))) := by
                rw [hdr, hd1, List.cons_sublist_cons]
                exact (hsub left hle).mpr (Nat.le_refl _)
              refine q.trans ?_
              have : s.length - (b + 1) = m' + (s.length - (b + 1) - m') := by omega
              rw [this, ← List.drop_drop]
              exact List.drop_sublist _ _
          · rw [List.getElem?_set_ne (by omega)]
            exact hlp j (by omega) h2
      · rw [if_neg hc]
        refine ⟨_, .inl rfl, left, ps, _, _, rfl, hle, fun l hl => ?_, hpl, hlp⟩
        rw [hdr]
        constructor
        · intro q
          by_cases hlt : left ≤ l
          · exact hlt
          · have hl2 : l < run.length := by omega
            have hdl := List.drop_eq_getElem_cons hl2
            rw [hdl] at q
            rcases List.sublist_cons_iff.mp q with q | ⟨r, q, q2⟩
            · rw [← hdl] at q
              exact (hsub l hl).mp q
            · injection q with q1 q3
              subst q3
              have := (hsub (l + 1) (by omega)).mp q2
              have e3 : l = left - 1 := by omega
              refine absurd ⟨by omega, ?_⟩ hc
              rw [← e3, List.getElem?_eq_getElem hl2, q1]
        · intro hlt
          exact ((hsub l hl).mpr hlt).trans (List.sublist_cons_self _ _))
theorem v_latest (run s : List Int) (hr : run.length ≤ 10000000) (hs : s.length < 1000000) : ∃ ps, m_latest_places [il run, il s] = .ok (1, il ps) ∧ ps.length = run.length ∧ (run.Sublist s → LP run s ps 0) := by
  obtain ⟨s', h1, left, ps, o4, o5, h2, hle, hsub, hlp⟩ := latest_loop run s
  rw [rngD_len] at hsub
  subst h2
  refine ⟨ps, ?_, hlp.1, fun q => ⟨hlp.1, fun j _ hj => ?_⟩⟩
  · unfold m_latest_places c_latest_places
    have a1 : (sAsg 2 (eRep (frzE (eLst (a0Cons (eC (.int 0)) aNil))) (eCall gLen (aCons (eVar 0) aNil)))) [.v 0 (il run), .v 0 (il s), .un, .un, .un, .un] = .nx [.v 0 (il run), .v 0 (il s), .v 1 (il (List.replicate run.length 0)), .un, .un, .un] := asg_ok (rep_zero (len_il (xs := run) rfl) hr)
    have a2 : (sAsg 3 (own0 (eCall gLen (aCons (eVar 0) aNil)))) [.v 0 (il run), .v 0 (il s), .v 1 (il (List.replicate run.length 0)), .un, .un, .un] = .nx [.v 0 (il run), .v 0 (il s), .v 1 (il (List.replicate run.length 0)), .v 0 (.int run.length), .un, .un] := asg_ok (own0_ok (len_il (xs := run) rfl))
    have a3 := for_rng (t := tgName 4) (F := c_latest_places_1) (ss := [.v 0 (il run), .v 0 (il s), .v 1 (il (List.replicate run.length 0)), .v 0 (.int run.length), .un, .un]) (aOne (len_il (i := 1) (xs := s) rfl)) (show s.length ≤ 1000000000 by omega)
    refine fn_rt rfl rfl ((seq_nx a1).trans ((seq_nx a2).trans ((seq_nx (a3.trans h1)).trans (retV_ok rfl))))
  · have : left = 0 := by
      have := (hsub 0 (Nat.zero_le _)).mp (by rw [Nat.sub_self, List.drop_zero, List.drop_zero]; exact q)
      omega
    exact hlp.2 j (by omega) hj

/-! thin -/
def iln (dn : List Nat) : D := il (dn.map fun a : Nat => (a : Int))
/-- lane j needs the beat at k -/
def need (dn : List Nat) (lt : List (List Int)) (k : Int) (j : Nat) : Bool := match dn[j]?, lt[j]? with
  | some d, some l => (match l[d]? with
    | some v => decide (v ≤ k)
    | none => false)
  | _, _ => false
theorem iln_ix {dn : List Nat} {n j d : Nat} (h : dn[j]? = some d) : ixD n (iln dn) (.int (j : Int)) = some (n - 1, .int (d : Int)) := il_ix (by simp [h])
theorem any_not_all {α : Type} (p : α → Bool) : ∀ xs : List α, xs.any p = !(xs.all fun x => !p x)
  | [] => rfl
  | x :: xs => by rw [List.any_cons, List.all_cons, any_not_all p xs]; cases p x <;> simp
theorem needed_step (dn : List Nat) (lt : List (List Int)) (k : Int) (j : Nat) (h1 : j < dn.length) (h2 : dn.length = lt.length) :
    c_is_needed_1 [.v 0 (iln dn), .v 0 (ill lt), .v 0 (.int k), .v 0 (.int (j : Int))] = if need dn lt k j then .rt 0 (.bl true) else .nx [.v 0 (iln dn), .v 0 (ill lt), .v 0 (.int k), .v 0 (.int (j : Int))] := by
  have g1 : dn[j]? = some dn[j] := List.getElem?_eq_getElem h1
  have g2 : lt[j]? = some (lt[j]'(by omega)) := List.getElem?_eq_getElem (by omega)
  unfold need
  rw [g1, g2]
  generalize dn[j] = d at *
  generalize lt[j]'(by omega) = l at *
  have i1 : ∀ n, ixD n (iln dn) (.int (j : Int)) = some (n - 1, .int (d : Int)) := fun n => iln_ix g1
  have i2 : ∀ n, ixD n (ill lt) (.int (j : Int)) = some (n - 1, il l) := fun n => ill_ix g2
  unfold c_is_needed_1
  cases hv : l[d]? with
  | none =>
    have hd : ¬ d < l.length := fun z => by rw [List.getElem?_eq_getElem z] at hv; cases hv
    simp [sIf, tyAnd, eTest, eOp, eIx, eVar, i1, i2, eCall, aCons, aNil, il_len, gLt, gInt, hd, sNext]
  | some v =>
    obtain ⟨hd, hdv⟩ := List.getElem?_eq_some_iff.mp hv
    have i3 : ∀ n, ixD n (il l) (.int (d : Int)) = some (n - 1, .int v) := fun n => il_ix hv
    by_cases hk : v ≤ k
    · simp [sIf, tyAnd, eTest, eOp, eIx, eVar, i1, i2, i3, eCall, aCons, aNil, il_len, gLt, gLe, gInt, hd, hdv, hk, sRet, own0, eC]
    · simp [sIf, tyAnd, eTest, eOp, eIx, eVar, i1, i2, i3, eCall, aCons, aNil, il_len, gLt, gLe, gInt, hd, hdv, hk, sNext]
theorem v_needed (dn : List Nat) (lt : List (List Int)) (k : Int) (h2 : dn.length = lt.length) (h3 : dn.length ≤ 1000000000) : m_is_needed [iln dn, ill lt, .int k] = .ok (0, .bl ((List.range dn.length).any (need dn lt k))) := by
  have h := loop_all (step := stepF (tgName 3) c_is_needed_1) (f := fun i : Nat => D.int (0 + (i : Int))) (p := fun j => !need dn lt k j) (A := fun o => [.v 0 (iln dn), .v 0 (ill lt), .v 0 (.int k), o]) (n := 0) (v := .bl true) (List.range dn.length) .un fun j hj o => by
    have hj' : j < dn.length := List.mem_range.mp hj
    have e : (stepF (tgName 3) c_is_needed_1) (.int (0 + (j : Int))) [.v 0 (iln dn), .v 0 (ill lt), .v 0 (.int k), o] = c_is_needed_1 [.v 0 (iln dn), .v 0 (ill lt), .v 0 (.int k), .v 0 (.int (j : Int))] := by
      rw [Int.zero_add]; rfl
    rw [e, needed_step dn lt k j hj' h2]
    constructor
    · intro q
      have q' : need dn lt k j = false := by simpa using q
      exact ⟨.v 0 (.int (j : Int)), by rw [q']; rfl⟩
    · intro q
      have q' : need dn lt k j = true := by simpa using q
      rw [q']; rfl
  have a := for_rng (t := tgName 3) (F := c_is_needed_1) (ss := [.v 0 (iln dn), .v 0 (ill lt), .v 0 (.int k), .un]) (aOne (len_il (i := 0) (xs := dn.map fun a : Nat => (a : Int)) rfl)) (by rw [List.length_map]; exact h3)
  rw [List.length_map] at a
  rw [any_not_all]
  unfold m_is_needed c_is_needed
  cases hc : (List.range dn.length).all (fun j => !need dn lt k j) with
  | true =>
    obtain ⟨o', h1⟩ := h.1 hc
    exact fn_rt rfl rfl ((seq_nx (a.trans h1)).trans rfl)
  | false =>
    exact fn_rt rfl rfl (seq_rt (a.trans (h.2 hc)))
/-- what is kept -/
def thinL (runs : List (List Int)) : List Int → List Int → List Int
  | [], kept => kept
  | x :: rest, kept => if comp runs (kept ++ rest) then thinL runs rest kept else thinL runs rest (kept ++ [x])
theorem adv {α β : Type} (xs : List α) (f g : α → β) (i : Nat) (h : i < xs.length) : ((xs.take i).map f ++ (xs.drop i).map g).set i (f xs[i]) = (xs.take (i + 1)).map f ++ (xs.drop (i + 1)).map g := by
  have e : i - ((xs.take i).map f).length = 0 := by rw [List.length_map, List.length_take]; omega
  rw [List.drop_eq_getElem_cons h, List.set_append_right _ _ (by rw [List.length_map, List.length_take]; omega), e, List.map_cons, List.set_cons_zero, List.take_succ, List.getElem?_eq_getElem h, List.map_append, List.append_assoc]
  rfl
theorem adv_get {α β : Type} (xs : List α) (f g : α → β) (i : Nat) (h : i < xs.length) : ((xs.take i).map f ++ (xs.drop i).map g)[i]? = some (g xs[i]) := by
  have e : i - ((xs.take i).map f).length = 0 := by rw [List.length_map, List.length_take]; omega
  rw [List.getElem?_append_right (by rw [List.length_map, List.length_take]; omega), e, List.drop_eq_getElem_cons h, List.map_cons]
  rfl
section
variable {K : PySem.W.Frag} {mg : Str → Option Value}
theorem lanes (T : Txt K mg) (runs : List (List Int)) (s : List Int) (lt : D) (kept : List Int) (kp : D) (k : Nat) (x : Int) (o6 o7 : Sl) (hx : s[k]? = some x) :
    ∃ o6', loop (stepF (tgName 6) (c_thin_1 T)) (rngD 0 runs.length) [.v 0 (ill runs), .v 0 (il s), .v 1 lt, .v 1 (iln (runs.map fun r => pre r kept 0)), .v 1 kp, .v 0 (.int (k : Int)), o6, o7] =
      .nx [.v 0 (ill runs), .v 0 (il s), .v 1 lt, .v 1 (iln (runs.map fun r => pre r (kept ++ [x]) 0)), .v 1 kp, .v 0 (.int (k : Int)), o6', o7] := by
  obtain ⟨s', h1, o6', h2⟩ := loop_nx (step := stepF (tgName 6) (c_thin_1 T)) (fun i st => ∃ o6, st = [.v 0 (ill runs), .v 0 (il s), .v 1 lt, .v 1 (iln ((runs.take i).map (fun r => pre r (kept ++ [x]) 0) ++ (runs.drop i).map (fun r => pre r kept 0))), .v 1 kp, .v 0 (.int (k : Int)), o6, o7]) (rngD 0 runs.length)
    [.v 0 (ill runs), .v 0 (il s), .v 1 lt, .v 1 (iln (runs.map fun r => pre r kept 0)), .v 1 kp, .v 0 (.int (k : Int)), o6, o7] ⟨o6, by simp⟩ (by
      rintro i d st hd ⟨o, rfl⟩
      obtain ⟨hi, rfl⟩ := rngD_get hd
      rw [Int.zero_add]
      have g0 := adv_get runs (fun r => pre r (kept ++ [x]) 0) (fun r => pre r kept 0) i hi
      have s0 := adv runs (fun r => pre r (kept ++ [x]) 0) (fun r => pre r kept 0) i hi
      have r0 : runs[i]? = some runs[i] := List.getElem?_eq_getElem hi
      have n0 : pre runs[i] (kept ++ [x]) 0 = if runs[i][pre runs[i] kept 0]? = some x then pre runs[i] kept 0 + 1 else pre runs[i] kept 0 := by rw [pre_append]; rfl
      rw [← s0, n0]
      generalize ((runs.take i).map (fun r => pre r (kept ++ [x]) 0) ++ (runs.drop i).map (fun r => pre r kept 0)) = L at *
      generalize runs[i] = r at *
      generalize pre r kept 0 = dd at *
      have hL : i < L.length := by obtain ⟨z, _⟩ := List.getElem?_eq_some_iff.mp g0; exact z
      refine ⟨_, .inl ?_, .v 0 (.int (i : Int)), rfl⟩
      show c_thin_1 T [.v 0 (ill runs), .v 0 (il s), .v 1 lt, .v 1 (iln L), .v 1 kp, .v 0 (.int (k : Int)), .v 0 (.int (i : Int)), o7] = _
      have i1 : ∀ n, ixD n (iln L) (.int (i : Int)) = some (n - 1, .int (dd : Int)) := fun n => iln_ix g0
      have i2 : ∀ n, ixD n (ill runs) (.int (i : Int)) = some (n - 1, il r) := fun n => ill_ix r0
      have i3 : ∀ n, ixD n (il s) (.int (k : Int)) = some (n - 1, .int x) := fun n => il_ix hx
      unfold c_thin_1
      cases hv : r[dd]? with
      | none =>
        have hdd : ¬ dd < r.length := fun z => by rw [List.getElem?_eq_getElem z] at hv; cases hv
        rw [if_neg (by simp), set_same g0]
        simp [sIf, tyAnd, eTest, eOp, eIx, eVar, i1, i2, eCall, aCons, aNil, il_len, gLt, gInt, hdd, sNext]
      | some v =>
        obtain ⟨hdd, _⟩ := List.getElem?_eq_some_iff.mp hv
        have i4 : ∀ n, ixD n (il r) (.int (dd : Int)) = some (n - 1, .int v) := fun n => il_ix hv
        by_cases hvx : v = x
        · subst hvx
          rw [if_pos rfl]
          rw [if_t (by simp [tyAnd, eTest, eOp, eIx, eVar, i1, i2, i3, i4, eCall, aCons, aNil, il_len, gLt, gInt, hdd, gEq_int])]
          unfold iln
          rw [setI_il (xs := L.map fun a : Nat => (a : Int)) (k := (i : Int)) (j := i) (v := ((dd + 1 : Nat) : Int)) (m := 0) (by
            have i5 := i1 1
            unfold iln at i5
            simp [own0, eOp, eIx, eVar, i5, eC, gAdd, gInt]) rfl rfl rfl (by simpa using hL)]
          simp [List.map_set]
        · rw [if_neg (by simpa using hvx), set_same g0]
          rw [if_f (by simp [tyAnd, eTest, eOp, eIx, eVar, i1, i2, i3, i4, eCall, aCons, aNil, il_len, gLt, gInt, hdd, gEq_int, hvx])]
          rfl)
  refine ⟨o6', ?_⟩
  rw [h1, h2, rngD_len, List.take_length, List.drop_length, List.map_nil, List.append_nil]
end
theorem need_comp (runs : List (List Int)) (s kept : List Int) (tab : List Int → List Int) (k : Nat) (h : ∀ r ∈ runs, LP r s (tab r) 0) :
    (List.range runs.length).any (need (runs.map fun r => pre r kept 0) (runs.map tab) (k : Int)) = !(comp runs (kept ++ s.drop (k + 1))) := by
  have key : ∀ j (hj : j < runs.length), need (runs.map fun r => pre r kept 0) (runs.map tab) (k : Int) j = !decide (runs[j].length ≤ pre runs[j] (kept ++ s.drop (k + 1)) 0) := fun j hj => by
    have hm : runs[j] ∈ runs := List.getElem_mem hj
    obtain ⟨hl, hp⟩ := h _ hm
    unfold need
    rw [List.getElem?_map, List.getElem?_map, List.getElem?_eq_getElem hj]
    simp only [Option.map_some]
    generalize runs[j] = r at *
    have hd : pre r kept 0 ≤ r.length := pre_le r kept 0 (Nat.zero_le _)
    rw [pre_append]
    generalize pre r kept 0 = d at *
    have hf := pre_full r (s.drop (k + 1)) d hd
    by_cases hlt : d < r.length
    · obtain ⟨p, e, hs⟩ := hp d (Nat.zero_le _) hlt
      rw [e]
      simp only
      rw [decide_eq_decide.mpr (hf.trans (hs (k + 1)))]
      rw [← decide_not, decide_eq_decide]
      omega
    · have hn : (tab r)[d]? = none := List.getElem?_eq_none (by omega)
      rw [hn]
      have : r.length ≤ pre r (s.drop (k + 1)) d := hf.mpr (by rw [List.drop_eq_nil_iff.mpr (by omega)]; exact List.nil_sublist _)
      simp [this]
  have e1 : (List.range runs.length).any (need (runs.map fun r => pre r kept 0) (runs.map tab) (k : Int)) = (List.range runs.length).any (fun j => match runs[j]? with | some r => !decide (r.length ≤ pre r (kept ++ s.drop (k + 1)) 0) | none => false) := by
    rw [Bool.eq_iff_iff,
      List.any_eq_true, List.any_eq_true]
    constructor
    · rintro ⟨j, hj, q⟩
      refine ⟨j, hj, ?_⟩
      have hj' := (List.mem_range.mp hj)
      rw [key j hj'] at q
      rw [List.getElem?_eq_getElem hj']
      exact q
    · rintro ⟨j, hj, q⟩
      refine ⟨j, hj, ?_⟩
      have hj' := (List.mem_range.mp hj)
      rw [key j hj']
      rw [List.getElem?_eq_getElem hj'] at q
      exact q
  rw [e1]
  unfold comp
  rw [Bool.eq_iff_iff, List.any_eq_true, Bool.not_eq_true', ← Bool.not_eq_true, List.all_eq_true]
  constructor
  · rintro ⟨j, hj, q⟩ z
    have hj' := (List.mem_range.mp hj)
    rw [List.getElem?_eq_getElem hj'] at q
    have := z _ (List.getElem_mem hj')
    simp only at q
    rw [this] at q
    cases q
  · intro z
    have z' : ∃ r ∈ runs, ¬ (decide (r.length ≤ pre r (kept ++ s.drop (k + 1)) 0) = true) := by
      apply Classical.byContradiction
      intro y
      exact z fun r hr => Classical.byContradiction fun w => y ⟨r, hr, w⟩
    obtain ⟨r, hr, q⟩ := z'
    obtain ⟨j, hj, e⟩ := List.mem_iff_getElem.mp hr
    refine (⟨j, List.mem_range.mpr hj, ?_⟩)
    rw [List.getElem?_eq_getElem hj, e]
    simpa using q

end K13

namespace K13
open PySem L2 Mv
theorem thin_q (runs : List (List Int)) (s : List Int) (tab : List Int → List Int) (h1 : runs.length < 10000000) (htab : ∀ r ∈ runs, m_latest_places [il r, il s] = .ok (1, il (tab r))) : eLc [7] (iSeq (eVar 0)) (tgName 7) tcYes (frzE (eFn m_latest_places (a0Cons (eVar 7) (a0Cons (eVar 1) aNil)))) [.v 0 (ill runs), .v 0 (il s), .un, .un, .un, .un, .un, .un] = .ok (1, .lst (runs.map fun r => il (tab r))) := by
  refine lc_ok (f := il) runs rfl h1 fun r hr => ⟨[.v 0 (ill runs), .v 0 (il s), .un, .un, .un, .un, .un, .v 0 (il r)], rfl, ?_⟩
  exact frz_ok (n := 1) ((fn_ok' (a0_ok (var_ok rfl) (a0_ok (var_ok rfl) rfl))).trans (htab r hr))
theorem thin_a0 (runs : List (List Int)) (s : List Int) (tab : List Int → List Int) (h1 : runs.length < 10000000) (htab : ∀ r ∈ runs, m_latest_places [il r, il s] = .ok (1, il (tab r))) :
    (sFrz 1 (sFrz 7 (sFrz 0 (sAsg 2 (eLc [7] (iSeq (eVar 0)) (tgName 7) tcYes (frzE (eFn m_latest_places (a0Cons (eVar 7) (a0Cons (eVar 1) aNil))))))))) [.v 0 (ill runs), .v 0 (il s), .un, .un, .un, .un, .un, .un] = .nx [.v 0 (ill runs), .v 0 (il s), .v 1 (ill (runs.map tab)), .un, .un, .un, .un, .un] := by
  have q := thin_q runs s tab h1 htab
  refine Eq.trans (frzS_at (n := 0) (d := il s) rfl) ?_
  refine Eq.trans (frzS_un rfl) ?_
  refine Eq.trans (frzS_at (n := 0) (d := ill runs) rfl) ?_
  simp only [List.set_cons_succ, List.set_cons_zero]
  refine Eq.trans (asg_ok q) ?_
  simp only [List.set_cons_succ, List.set_cons_zero, ill, List.map_map]
  rfl
theorem e_prefix : m_law_prefix = m_prefix_length := rfl
theorem e_whole : m_law_whole = m_is_complete := rfl
section
variable {K : PySem.W.Frag} {mg : Str → Option Value}
theorem thin_nd (runs : List (List Int)) (s : List Int) (tab : List Int → List Int) (kept : List Int) (k : Nat) (lp : ∀ r ∈ runs, LP r s (tab r) 0) (h1 : runs.length ≤ 1000) :
    m_is_needed [iln (runs.map fun r => pre r kept 0), ill (runs.map tab), .int (k : Int)] = .ok (0, .bl (!(comp runs (kept ++ s.drop (k + 1))))) := by
  have nd := v_needed (runs.map fun r => pre r kept 0) (runs.map tab) (k : Int) (by rw [List.length_map, List.length_map]) (by rw [List.length_map]; omega)
  rw [List.length_map, need_comp runs s kept tab k lp] at nd
  exact nd
theorem thin_tt (runs : List (List Int)) (s : List Int) (tab : List Int → List Int) (kept : List Int) (k : Nat) (o6 o7 : Sl) (lp : ∀ r ∈ runs, LP r s (tab r) 0) (h1 : runs.length ≤ 1000) :
    (eTest (eFnF m_is_needed (aCons (eVar 3) (aCons (eVar 2) (aCons (eVar 5) aNil))))) [.v 0 (ill runs), .v 0 (il s), .v 1 (ill (runs.map tab)), .v 1 (iln (runs.map fun r => pre r kept 0)), .v 1 (il kept), .v 0 (.int (k : Int)), o6, o7] = .ok (!(comp runs (kept ++ s.drop (k + 1)))) := by
  have a : (aCons (eVar 3) (aCons (eVar 2) (aCons (eVar 5) aNil))) [.v 0 (ill runs), .v 0 (il s), .v 1 (ill (runs.map tab)), .v 1 (iln (runs.map fun r => pre r kept 0)), .v 1 (il kept), .v 0 (.int (k : Int)), o6, o7] = .ok [iln (runs.map fun r => pre r kept 0), ill (runs.map tab), .int (k : Int)] := aC_ok (var_ok rfl) (aC_ok (var_ok rfl) (aC_ok (var_ok rfl) rfl))
  exact test_ok (fnF_ok a (thin_nd runs s tab kept k lp h1) rfl)
theorem thin_step (T : Txt K mg) (runs : List (List Int)) (s : List Int) (tab : List Int → List Int) (kept : List Int) (k : Nat) (x : Int) (o6 o7 : Sl) (hx : s[k]? = some x) (lp : ∀ r ∈ runs, LP r s (tab r) 0) (h1 : runs.length ≤ 1000) (h2 : kept.length < 10000000) :
    (comp runs (kept ++ s.drop (k + 1)) = true → c_thin_2 T [.v 0 (ill runs), .v 0 (il s), .v 1 (ill (runs.map tab)), .v 1 (iln (runs.map fun r => pre r kept 0)), .v 1 (il kept), .v 0 (.int (k : Int)), o6, o7] = .nx [.v 0 (ill runs), .v 0 (il s), .v 1 (ill (runs.map tab)), .v 1 (iln (runs.map fun r => pre r kept 0)), .v 1 (il kept), .v 0 (.int (k : Int)), o6, o7]) ∧
    (comp runs (kept ++ s.drop (k + 1)) = false → ∃ o6', c_thin_2 T [.v 0 (ill runs), .v 0 (il s), .v 1 (ill (runs.map tab)), .v 1 (iln (runs.map fun r => pre r kept 0)), .v 1 (il kept), .v 0 (.int (k : Int)), o6, o7] = .nx [.v 0 (ill runs), .v 0 (il s), .v 1 (ill (runs.map tab)), .v 1 (iln (runs.map fun r => pre r (kept ++ [x]) 0)), .v 1 (il (kept ++ [x])), .v 0 (.int (k : Int)), o6', o7]) := by
  have tt := thin_tt runs s tab kept k o6 o7 lp h1
  unfold c_thin_2
  constructor
  · intro hcc
    rw [hcc] at tt
    exact (if_f tt).trans rfl
  · intro hcc
    rw [hcc] at tt
    have b1 : (sApp 4 (own0 (eIx (eVar 1) (eVar 5)))) [.v 0 (ill runs), .v 0 (il s), .v 1 (ill (runs.map tab)), .v 1 (iln (runs.map fun r => pre r kept 0)), .v 1 (il kept), .v 0 (.int (k : Int)), o6, o7] = .nx [.v 0 (ill runs), .v 0 (il s), .v 1 (ill (runs.map tab)), .v 1 (iln (runs.map fun r => pre r kept 0)), .v 1 (il (kept ++ [x])), .v 0 (.int (k : Int)), o6, o7] :=
      app_il (own0_ok (ixi_ok (var_ok rfl) (var_ok rfl) hx)) rfl h2
    have b2 := for_rng (t := tgName 6) (F := c_thin_1 T) (ss := [.v 0 (ill runs), .v 0 (il s), .v 1 (ill (runs.map tab)), .v 1 (iln (runs.map fun r => pre r kept 0)), .v 1 (il (kept ++ [x])), .v 0 (.int (k : Int)), o6, o7]) (aOne (len_ill (i := 0) (xs := runs) rfl)) (by omega)
    obtain ⟨o6', b3⟩ := lanes T runs s (ill (runs.map tab)) kept (il (kept ++ [x])) k x o6 o7 hx
    exact ⟨o6', (if_t tt).trans ((seq_nx b1).trans (b2.trans b3))⟩
theorem v_thin (T : Txt K mg) (runs : List (List Int)) (s : List Int) (h1 : runs.length ≤ 1000) (h2 : ∀ r ∈ runs, r.length ≤ 10000000) (h3 : s.length < 1000000) :
    m_thin T [ill runs, il s] = if comp runs s then .ok (1, il (thinL runs s [])) else .exc ⟨T.a_Incomplete, none⟩ := by
  have ht : (tyNot (eTest (eFnF m_is_complete (aCons (eVar 0) (aCons (eVar 1) aNil))))) [.v 0 (ill runs), .v 0 (il s), .un, .un, .un, .un, .un, .un] = .ok (!(comp runs s)) := by
    exact tnot_ok (test_ok (fnF_ok (aC_ok (var_ok rfl) (aC_ok (var_ok rfl) rfl)) (v_complete runs s) rfl))
  unfold m_thin c_thin
  cases hc : comp runs s with
  | false =>
    rw [hc] at ht
    exact fn_ex rfl rfl (seq_ex (if_t ht))
  | true =>
    rw [hc] at ht
    have sub : ∀ r ∈ runs, r.Sublist s := fun r hr => by
      have := List.all_eq_true.mp hc r hr
      have := (pre_full r s 0 (Nat.zero_le _)).mp (of_decide_eq_true this)
      simpa using this
    obtain ⟨tab, htab⟩ := choose_fn (xs := runs) fun r hr => v_latest r s (h2 r hr) h3
    have lp : ∀ r ∈ runs, LP r s (tab r) 0 := fun r hr => (htab r hr).2.2 (sub r hr)
    have a0 := thin_a0 runs s tab (by omega) fun r hr => (htab r hr).1
    have a1 : (sAsg 3 (eRep (frzE (eLst (a0Cons (eC (.int 0)) aNil))) (eCall gLen (aCons (eVar 0) aNil)))) [.v 0 (ill runs), .v 0 (il s), .v 1 (ill (runs.map tab)), .un, .un, .un, .un, .un] = .nx [.v 0 (ill runs), .v 0 (il s), .v 1 (ill (runs.map tab)), .v 1 (iln (runs.map fun r => pre r [] 0)), .un, .un, .un, .un] := by
      have e : iln (runs.map fun r => pre r [] 0) = il (List.replicate runs.length 0) := by
        unfold iln
        rw [List.map_map]
        have e2 : ((fun a : Nat => (a : Int)) ∘ fun r => pre r [] 0) = fun _ : List Int => (0 : Int) := by
          funext r; rfl
        rw [e2, List.map_const']
      rw [e]
      exact asg_ok (rep_zero (len_ill (xs := runs) rfl) (by omega))
    have a2 : (sAsg 4 (eLst aNil)) [.v 0 (ill runs), .v 0 (il s), .v 1 (ill (runs.map tab)), .v 1 (iln (runs.map fun r => pre r [] 0)), .un, .un, .un, .un] = .nx [.v 0 (ill runs), .v 0 (il s), .v 1 (ill (runs.map tab)), .v 1 (iln (runs.map fun r => pre r [] 0)), .v 1 (il []), .un, .un, .un] := asg_ok rfl
    have a3 := for_rng (t := tgName 5) (F := c_thin_2 T) (ss := [.v 0 (ill runs), .v 0 (il s), .v 1 (ill (runs.map tab)), .v 1 (iln (runs.map fun r => pre r [] 0)), .v 1 (il []), .un, .un, .un]) (aOne (len_il (i := 1) (xs := s) rfl)) (by omega)
    obtain ⟨s', h4, kept, o5, o6, o7, h5, h6, h7⟩ := loop_nx (step := stepF (tgName 5) (c_thin_2 T)) (fun k st => ∃ (kept : List Int) (o5 o6 o7 : Sl), st = [.v 0 (ill runs), .v 0 (il s), .v 1 (ill (runs.map tab)), .v 1 (iln (runs.map fun r => pre r kept 0)), .v 1 (il kept), o5, o6, o7] ∧ thinL runs (s.drop k) kept = thinL runs s [] ∧ kept.length ≤ k) (rngD 0 s.length)
      [.v 0 (ill runs), .v 0 (il s), .v 1 (ill (runs.map tab)), .v 1 (iln (runs.map fun r => pre r [] 0)), .v 1 (il []), .un, .un, .un] ⟨[], _, _, _, rfl, by simp, by simp⟩ (by
        rintro k d st hd ⟨kept, o5, o6, o7, rfl, q1, q2⟩
        obtain ⟨hk, rfl⟩ := rngD_get hd
        have hx : s[k]? = some s[k] := List.getElem?_eq_getElem hk
        rw [List.drop_eq_getElem_cons hk, thinL] at q1
        generalize s[k] = x at *
        have se : ([.v 0 (ill runs), .v 0 (il s), .v 1 (ill (runs.map tab)), .v 1 (iln (runs.map fun r => pre r kept 0)), .v 1 (il kept), o5, o6, o7] : En).set 5 (.v 0 (.int (0 + (k : Int)))) = [.v 0 (ill runs), .v 0 (il s), .v 1 (ill (runs.map tab)), .v 1 (iln (runs.map fun r => pre r kept 0)), .v 1 (il kept), .v 0 (.int (k : Int)), o6, o7] := by
          rw [Int.zero_add]; rfl
        obtain ⟨t1, t2⟩ := thin_step T runs s tab kept k x o6 o7 hx lp h1 (by omega)
        cases hcc : comp runs (kept ++ s.drop (k + 1)) with
        | true =>
          rw [hcc] at q1
          exact ⟨_, .inl ((step_eq se).trans (t1 hcc)), kept, _, _, _, rfl, by simpa using q1, by omega⟩
        | false =>
          rw [hcc] at q1
          obtain ⟨o6', t3⟩ := t2 hcc
          exact ⟨_, .inl ((step_eq se).trans t3), kept ++ [x], _, _, _, rfl, by simpa using q1, by rw [List.length_append]; simp; omega⟩)
    rw [rngD_len, List.drop_length, thinL] at h6
    subst h5 h6
    rw [if_pos rfl]
    refine fn_rt rfl rfl ((seq_nx (if_f ht)).trans ((seq_nx a0).trans ((seq_nx a1).trans ((seq_nx a2).trans ((seq_nx (a3.trans h4)).trans (retV_ok rfl))))))
end
theorem v_thinned (runs : List (List Int)) (s : List Int) (h3 : s.length < 1000000) : m_law_thinned [ill runs, il s] = .ok (1, il (thinL runs s [])) := by
  obtain ⟨s', h4, kept, o3, h5, h6, h7⟩ := loop_nx (step := stepF (tgName 3) c_law_thinned_1) (fun k st => ∃ (kept : List Int) (o3 : Sl), st = [.v 0 (ill runs), .v 0 (il s), .v 1 (il kept), o3] ∧ thinL runs (s.drop k) kept = thinL runs s [] ∧ kept.length ≤ k) (rngD 0 s.length)
      [.v 0 (ill runs), .v 0 (il s), .v 1 (il []), .un] ⟨[], _, rfl, by simp, by simp⟩ (by
        rintro k d st hd ⟨kept, o3, rfl, q1, q2⟩
        obtain ⟨hk, rfl⟩ := rngD_get hd
        rw [Int.zero_add]
        have hx : s[k]? = some s[k] := List.getElem?_eq_getElem hk
        rw [List.drop_eq_getElem_cons hk, thinL] at q1
        generalize s[k] = x at *
        have c1 : (frzE (eCat (eVar 2) (frzE (eSl (eVar 1) (pSome (eOp gAdd (eVar 3) (eC (.int 1)))) pNone)))) [.v 0 (ill runs), .v 0 (il s), .v 1 (il kept), .v 0 (.int (k : Int))] = .ok (0, il (kept ++ s.drop (k + 1))) := by
          refine frz_ok (cat_il (xs := kept) (n := 1) (var_ok rfl) (frz_ok (sl_from (a := k + 1) (m := 0) (n := 0) (var_ok rfl) (by decide) (by simp [eOp, eVar, gAdd, gInt, eC]))) (by decide) (by decide) ?_)
          rw [List.length_drop]; omega
        have tt : (tyNot (eTest (eFnF m_law_whole (aCons (eVar 0) (aCons (frzE (eCat (eVar 2) (frzE (eSl (eVar 1) (pSome (eOp gAdd (eVar 3) (eC (.int 1)))) pNone)))) aNil))))) [.v 0 (ill runs), .v 0 (il s), .v 1 (il kept), .v 0 (.int (k : Int))] = .ok (!(comp runs (kept ++ s.drop (k + 1)))) := by
          rw [e_whole]
          exact tnot_ok (test_ok (fnF_ok (aC_ok (var_ok rfl) (aC_ok c1 rfl)) (v_complete runs _) rfl))
        simp only [stepF_name, List.set_cons_succ, List.set_cons_zero]
        unfold c_law_thinned_1
        cases hcc : comp runs (kept ++ s.drop (k + 1)) with
        | true =>
          rw [hcc] at tt q1
          rw [if_f tt]
          exact ⟨_, .inl rfl, kept, _, rfl, by simpa using q1, by omega⟩
        | false =>
          rw [hcc] at tt q1
          rw [if_t tt]
          rw [app_il (xs := kept) (v := x) (own0_ok (ixi_ok (var_ok rfl) (var_ok rfl) hx)) rfl (by omega)]
          exact ⟨_, .inl rfl, kept ++ [x], _, rfl, by simpa using q1, by simp; omega⟩)
  rw [rngD_len, List.drop_length, thinL] at h6
  subst h5 h6
  have a2 : (sAsg 2 (eLst aNil)) [.v 0 (ill runs), .v 0 (il s), .un, .un] = .nx [.v 0 (ill runs), .v 0 (il s), .v 1 (il []), .un] := asg_ok rfl
  have a3 := for_rng (t := tgName 3) (F := c_law_thinned_1) (ss := [.v 0 (ill runs), .v 0 (il s), .v 1 (il []), .un]) (aOne (len_il (i := 1) (xs := s) rfl)) (by omega)
  unfold m_law_thinned c_law_thinned
  exact fn_rt rfl rfl ((seq_nx a2).trans ((seq_nx (a3.trans h4)).trans (retV_ok rfl)))
end K13

namespace K13
open PySem L2 Mv
def rl (ns : List Int) : D := .rdl (ns.map .int)
theorem rl_len {ns : List Int} {ss : En} {i n : Nat} (h : ss[i]? = some (.v n (rl ns))) : eCall gLen (aCons (eVar i) aNil) ss = .ok (0, .int (ns.length : Int)) := call_ok (aOne (var_ok h)) (by simp [rl, gLen])
theorem rl_ix {ns : List Int} {n d : Nat} {x : Int} (h : ns[d]? = some x) : ixD n (rl ns) (.int (d : Int)) = some (0, .int x) := by
  unfold rl ixD
  dsimp only
  rw [atI_nat (k := d) (x := D.int x) (by simp [h])]
  rfl
theorem cell_abs {ns : List Int} {k : Nat} {rest : SM} (h : ∃ c : Int, 0 ≤ c ∧ rest [.v 0 (rl ns), .v 0 (.int (k : Int))] = .rt 0 (.int c)) :
    ∃ c : Int, 0 ≤ c ∧ (sSeq (sIf (eTest (eOp gLt (eVar 1) (eCall gLen (aCons (eVar 0) aNil)))) (sRet (own0 (eCall gAbs (aCons (eIx (eVar 0) (eVar 1)) aNil)))) sNext) rest) [.v 0 (rl ns), .v 0 (.int (k : Int))] = .rt 0 (.int c) := by
  have t : (eTest (eOp gLt (eVar 1) (eCall gLen (aCons (eVar 0) aNil)))) [.v 0 (rl ns), .v 0 (.int (k : Int))] = .ok (decide ((k : Int) < (ns.length : Int))) := test_ok (lt_ok (var_ok rfl) (rl_len rfl))
  by_cases hk : k < ns.length
  · have e : decide ((k : Int) < (ns.length : Int)) = true := decide_eq_true (by omega)
    rw [e] at t
    have ix : eIx (eVar 0) (eVar 1) [.v 0 (rl ns), .v 0 (.int (k : Int))] = .ok (0, .int ns[k]) := by
      unfold eIx
      rw [var_ok (i := 0) (n := 0) (d := rl ns) rfl, var_ok (i := 1) (n := 0) (d := .int (k : Int)) rfl]
      simp only [rl_ix (List.getElem?_eq_getElem hk)]
    refine ⟨if ns[k] < 0 then -ns[k] else ns[k], by split <;> omega, ?_⟩
    exact seq_rt ((if_t t).trans (ret_ok (own0_ok (call_ok (aOne ix) rfl))))
  · have e : decide ((k : Int) < (ns.length : Int)) = false := decide_eq_false (by omega)
    rw [e] at t
    obtain ⟨c, hc, h⟩ := h
    exact ⟨c, hc, (seq_nx (if_f t)).trans h⟩
theorem v_cell (ns : List Int) (k : Nat) : ∃ c : Int, 0 ≤ c ∧ m_law_cell [rl ns, .int (k : Int)] = .ok (0, .int c) := by
  obtain ⟨c, hc, h⟩ := cell_abs (ns := ns) (k := k) (rest := sRet (own0 (eC (.int 0)))) ⟨0, by decide, rfl⟩
  exact ⟨c, hc, fn_rt rfl rfl h⟩
theorem modb (a : Int) {b : Int} (h : 0 < b) : 0 ≤ a % b ∧ a % b < b := ⟨Int.emod_nonneg _ (by omega), Int.emod_lt_of_pos _ h⟩
theorem d_step (c count size : Int) (row : List Int) (rest : Int) (k : Nat) (o6 : Sl) (hs : 0 < size) (hs2 : size ≤ 1000000000) (hk : k < 1000000) (hr : row.length < 10000000) :
    ∃ v rest' o6', 0 ≤ v ∧ v < size ∧ c_law_digits_1 [.v 0 (.int c), .v 0 (.int count), .v 0 (.int size), .v 1 (il row), .v 0 (.int rest), .v 0 (.int (k : Int)), o6] =
      .nx [.v 0 (.int c), .v 0 (.int count), .v 0 (.int size), .v 1 (il (row ++ [v])), .v 0 (.int rest'), .v 0 (.int (k : Int)), o6'] := by
  have t1 : (eTest (eOp gGe (eVar 0) (eOp gPow (eC (.int 10)) (eC (.int 18))))) [.v 0 (.int c), .v 0 (.int count), .v 0 (.int size), .v 1 (il row), .v 0 (.int rest), .v 0 (.int (k : Int)), o6] = .ok (decide ((10 : Int) ^ 18 ≤ c)) := test_ok (ge_ok (var_ok rfl) (pow_ok (n := 18) (by decide) (by decide)))
  have t2 : (eTest (eOp gGt (eVar 4) (eC (.int 0)))) [.v 0 (.int c), .v 0 (.int count), .v 0 (.int size), .v 1 (il row), .v 0 (.int rest), .v 0 (.int (k : Int)), o6] = .ok (decide (0 < rest)) := test_ok (gt_ok (var_ok rfl) c_ok)
  have t := tand_ok t1 t2
  unfold c_law_digits_1
  cases hb : (decide ((10 : Int) ^ 18 ≤ c) && decide (0 < rest)) with
  | true =>
    rw [hb] at t
    have b1 : (sApp 3 (own0 (eOp gMod (eCall gToInt (aCons (eVar 4) aNil)) (eVar 2)))) [.v 0 (.int c), .v 0 (.int count), .v 0 (.int size), .v 1 (il row), .v 0 (.int rest), .v 0 (.int (k : Int)), o6] = .nx [.v 0 (.int c), .v 0 (.int count), .v 0 (.int size), .v 1 (il (row ++ [rest % size])), .v 0 (.int rest), .v 0 (.int (k : Int)), o6] :=
      app_il (own0_ok (mod_ok (toInt_ok (var_ok rfl)) (var_ok rfl) hs)) rfl hr
    have b2 : (sAsg 4 (own0 (eOp gDiv (eVar 4) (eVar 2)))) [.v 0 (.int c), .v 0 (.int count), .v 0 (.int size), .v 1 (il (row ++ [rest % size])), .v 0 (.int rest), .v 0 (.int (k : Int)), o6] = .nx [.v 0 (.int c), .v 0 (.int count), .v 0 (.int size), .v 1 (il (row ++ [rest % size])), .v 0 (.int (rest / size)), .v 0 (.int (k : Int)), o6] :=
      asg_ok (own0_ok (div_ok (var_ok rfl) (var_ok rfl) hs (by omega)))
    exact ⟨_, _, _, (modb rest hs).1, (modb rest hs).2, (if_t t).trans ((seq_nx b1).trans b2)⟩
  | false =>
    rw [hb] at t
    obtain ⟨m1, e1⟩ : ∃ m1, m1 = (c + 7919 * (k : Int) + 13) % 2147483647 := ⟨_, rfl⟩
    obtain ⟨m2, e2⟩ : ∃ m2, m2 = (m1 * (m1 + 48271)) % 2147483629 := ⟨_, rfl⟩
    obtain ⟨m3, e3⟩ : ∃ m3, m3 = (m2 * (m2 + 69621) + 31 * (k : Int)) % 2147483647 := ⟨_, rfl⟩
    have r1 := modb (c + 7919 * (k : Int) + 13) (b := 2147483647) (by decide)
    have r2 := modb (m1 * (m1 + 48271)) (b := 2147483629) (by decide)
    rw [← e1] at r1
    rw [← e2] at r2
    have b1 : (sAsg 6 (own0 (eOp gMod (eCall gToInt (aCons (eOp gAdd (eOp gAdd (eVar 0) (eOp gMul (eC (.int 7919)) (eVar 5))) (eC (.int 13))) aNil)) (eC (.int 2147483647))))) [.v 0 (.int c), .v 0 (.int count), .v 0 (.int size), .v 1 (il row), .v 0 (.int rest), .v 0 (.int (k : Int)), o6] = .nx [.v 0 (.int c), .v 0 (.int count), .v 0 (.int size), .v 1 (il row), .v 0 (.int rest), .v 0 (.int (k : Int)), .v 0 (.int m1)] := by
      rw [e1]
      exact asg_ok (own0_ok (mod_ok (toInt_ok (add_ok (add_ok (var_ok rfl) (mul_ok c_ok (var_ok rfl) (by omega) (by omega) (by omega) (by omega))) c_ok)) c_ok (by decide)))
    have b2 : (sAsg 6 (own0 (eOp gMod (eCall gToInt (aCons (eOp gMul (eVar 6) (eOp gAdd (eVar 6) (eC (.int 48271)))) aNil)) (eC (.int 2147483629))))) [.v 0 (.int c), .v 0 (.int count), .v 0 (.int size), .v 1 (il row), .v 0 (.int rest), .v 0 (.int (k : Int)), .v 0 (.int m1)] = .nx [.v 0 (.int c), .v 0 (.int count), .v 0 (.int size), .v 1 (il row), .v 0 (.int rest), .v 0 (.int (k : Int)), .v 0 (.int m2)] := by
      rw [e2]
      exact asg_ok (own0_ok (mod_ok (toInt_ok (mul_ok (var_ok rfl) (add_ok (var_ok rfl) c_ok) (by omega) (by omega) (by omega) (by omega))) c_ok (by decide)))
    have b3 : (sAsg 6 (own0 (eOp gMod (eCall gToInt (aCons (eOp gAdd (eOp gMul (eVar 6) (eOp gAdd (eVar 6) (eC (.int 69621)))) (eOp gMul (eC (.int 31)) (eVar 5))) aNil)) (eC (.int 2147483647))))) [.v 0 (.int c), .v 0 (.int count), .v 0 (.int size), .v 1 (il row), .v 0 (.int rest), .v 0 (.int (k : Int)), .v 0 (.int m2)] = .nx [.v 0 (.int c), .v 0 (.int count), .v 0 (.int size), .v 1 (il row), .v 0 (.int rest), .v 0 (.int (k : Int)), .v 0 (.int m3)] := by
      rw [e3]
      exact asg_ok (own0_ok (mod_ok (toInt_ok (add_ok (mul_ok (var_ok rfl) (add_ok (var_ok rfl) c_ok) (by omega) (by omega) (by omega) (by omega)) (mul_ok c_ok (var_ok rfl) (by omega) (by omega) (by omega) (by omega)))) c_ok (by decide)))
    have b4 : (sApp 3 (own0 (eOp gMod (eCall gToInt (aCons (eOp gDiv (eVar 6) (eC (.int 9))) aNil)) (eVar 2)))) [.v 0 (.int c), .v 0 (.int count), .v 0 (.int size), .v 1 (il row), .v 0 (.int rest), .v 0 (.int (k : Int)), .v 0 (.int m3)] = .nx [.v 0 (.int c), .v 0 (.int count), .v 0 (.int size), .v 1 (il (row ++ [(m3 / 9) % size])), .v 0 (.int rest), .v 0 (.int (k : Int)), .v 0 (.int m3)] :=
      app_il (own0_ok (mod_ok (toInt_ok (div_ok (var_ok rfl) c_ok (by decide) (by decide))) (var_ok rfl) hs)) rfl hr
    exact ⟨_, _, _, (modb (m3 / 9) hs).1, (modb (m3 / 9) hs).2, (if_f t).trans ((seq_nx b1).trans ((seq_nx b2).trans ((seq_nx b3).trans b4)))⟩
theorem v_digits (c size : Int) (count : Nat) (hs : 0 < size) (hs2 : size ≤ 1000000000) (hc : count ≤ 100000) : ∃ row, m_law_digits [.int c, .int (count : Int), .int size] = .ok (1, il row) ∧ row.length = count ∧ ∀ x ∈ row, 0 ≤ x ∧ x < size := by
  obtain ⟨s', h1, row, rest, o5, o6, h2, h3, h4⟩ := loop_nx (step := stepF (tgName 5) c_law_digits_1) (fun k st => ∃ (row : List Int) (rest : Int) (o5 o6 : Sl), st = [.v 0 (.int c), .v 0 (.int (count : Int)), .v 0 (.int size), .v 1 (il row), .v 0 (.int rest), o5, o6] ∧ row.length = k ∧ ∀ x ∈ row, 0 ≤ x ∧ x < size) (rngD 0 count)
    [.v 0 (.int c), .v 0 (.int (count : Int)), .v 0 (.int size), .v 1 (il []), .v 0 (.int c), .un, .un] ⟨[], _, _, _, rfl, rfl, fun x hx => by cases hx⟩ (by
      rintro k d st hd ⟨row, rest, o5, o6, rfl, h3, h4⟩
      obtain ⟨hk, rfl⟩ := rngD_get hd
      have se : ([.v 0 (.int c), .v 0 (.int (count : Int)), .v 0 (.int size), .v 1 (il row), .v 0 (.int rest), o5, o6] : En).set 5 (.v 0 (.int (0 + (k : Int)))) = [.v 0 (.int c), .v 0 (.int (count : Int)), .v 0 (.int size), .v 1 (il row), .v 0 (.int rest), .v 0 (.int (k : Int)), o6] := by
        rw [Int.zero_add]; rfl
      obtain ⟨v, rest', o6', v1, v2, e⟩ := d_step c count size row rest k o6 hs hs2 (by omega) (by omega)
      refine ⟨_, .inl ((step_eq se).trans e), row ++ [v], rest', _, _, rfl, by rw [List.length_append, h3]; rfl, fun x hx => ?_⟩
      obtain hx | hx := List.mem_append.mp hx
      · exact h4 x hx
      · rw [List.mem_singleton.mp hx]; exact ⟨v1, v2⟩)
  rw [rngD_len] at h3
  subst h2
  refine ⟨row, ?_, h3, h4⟩
  have a1 : (sAsg 3 (eLst aNil)) [.v 0 (.int c), .v 0 (.int (count : Int)), .v 0 (.int size), .un, .un, .un, .un] = .nx [.v 0 (.int c), .v 0 (.int (count : Int)), .v 0 (.int size), .v 1 (il []), .un, .un, .un] := asg_ok rfl
  have a2 : (sAsg 4 (own0 (eVar 0))) [.v 0 (.int c), .v 0 (.int (count : Int)), .v 0 (.int size), .v 1 (il []), .un, .un, .un] = .nx [.v 0 (.int c), .v 0 (.int (count : Int)), .v 0 (.int size), .v 1 (il []), .v 0 (.int c), .un, .un] := asg_ok (own0_ok (var_ok rfl))
  have a3 := for_rng (t := tgName 5) (F := c_law_digits_1) (ss := [.v 0 (.int c), .v 0 (.int (count : Int)), .v 0 (.int size), .v 1 (il []), .v 0 (.int c), .un, .un]) (g := aCons (eVar 1) aNil) (n := count) (aOne (var_ok rfl)) (by omega)
  unfold m_law_digits c_law_digits
  exact fn_rt rfl rfl ((seq_nx a1).trans ((seq_nx a2).trans ((seq_nx (a3.trans h1)).trans (retV_ok rfl))))
end K13

namespace K13
open PySem L2 Mv
theorem v_seed (ns : List Int) (k : Int) (h0 : 0 ≤ k) (h1 : k ≤ 1000) : ∃ c : Int, 0 ≤ c ∧ m_law_seed [rl ns, .int k] = .ok (0, .int c) := by
  obtain ⟨k, rfl⟩ := Int.eq_ofNat_of_zero_le h0
  obtain ⟨c0, _, e0⟩ := v_cell ns 0
  have e0' : m_law_cell [rl ns, .int 0] = .ok (0, .int c0) := e0
  obtain ⟨row, e1, e2, e3⟩ := v_digits (c0 + 101 * (k : Int) + 7) (10 ^ 9) 1 (by decide) (by decide) (by decide)
  obtain ⟨x, hx⟩ : ∃ x, row[0]? = some x := ⟨row[0]'(by omega), List.getElem?_eq_getElem (by omega)⟩
  have hm : x ∈ row := List.mem_of_getElem? hx
  have q : (sRet (own0 (eIx (frzE (eFn m_law_digits (a0Cons (eOp gAdd (eOp gAdd (eFnF m_law_cell (aCons (eVar 0) (aCons (eC (.int 0)) aNil))) (eOp gMul (eC (.int 101)) (eVar 1))) (eC (.int 7))) (a0Cons (eC (.int 1)) (a0Cons (eOp gPow (eC (.int 10)) (eC (.int 9))) aNil))))) (eC (.int 0))))) [.v 0 (rl ns), .v 0 (.int (k : Int))] = .rt 0 (.int x) := by
    have a : (a0Cons (eOp gAdd (eOp gAdd (eFnF m_law_cell (aCons (eVar 0) (aCons (eC (.int 0)) aNil))) (eOp gMul (eC (.int 101)) (eVar 1))) (eC (.int 7))) (a0Cons (eC (.int 1)) (a0Cons (eOp gPow (eC (.int 10)) (eC (.int 9))) aNil))) [.v 0 (rl ns), .v 0 (.int (k : Int))] = .ok [.int (c0 + 101 * (k : Int) + 7), .int ((1 : Nat) : Int), .int (10 ^ 9)] :=
      a0_ok (add_ok (add_ok (fnF_ok (aC_ok (var_ok rfl) (aC_ok c_ok rfl)) e0' rfl) (mul_ok c_ok (var_ok rfl) (by omega) (by omega) (by omega) (by omega))) c_ok) (a0_ok c_ok (a0_ok (pow_ok (n := 9) (by decide) (by decide)) rfl))
    exact ret_ok (own0_ok (ixi_ok (k := 0) (frz_ok ((fn_ok' a).trans e1)) c_ok hx))
  obtain ⟨c, hc, h⟩ := cell_abs (ns := ns) (k := k) ⟨x, (e3 x hm).1, q⟩
  exact ⟨c, hc, fn_rt rfl rfl h⟩
theorem v_symbol (turn dig : Int) : ∃ v, m_law_symbol [.int turn, .int dig] = .ok (0, .int v) := by
  have hb : 0 < 1 + (turn / 4) % 6 := by have := modb (turn / 4) (b := 6) (by decide); omega
  have a : (sAsg 2 (own0 (eOp gMod (eCall gToInt (aCons (eVar 1) aNil)) (eOp gAdd (eC (.int 1)) (eOp gMod (eCall gToInt (aCons (eOp gDiv (eVar 0) (eC (.int 4))) aNil)) (eC (.int 6))))))) [.v 0 (.int turn), .v 0 (.int dig), .un] = .nx [.v 0 (.int turn), .v 0 (.int dig), .v 0 (.int (dig % (1 + (turn / 4) % 6)))] :=
    asg_ok (own0_ok (mod_ok (toInt_ok (var_ok rfl)) (add_ok c_ok (mod_ok (toInt_ok (div_ok (var_ok rfl) c_ok (by decide) (by decide))) c_ok (by decide))) hb))
  generalize dig % (1 + (turn / 4) % 6) = pl at *
  have t1 : (eTest (eOp gEq (eOp gMod (eCall gToInt (aCons (eVar 0) aNil)) (eC (.int 4))) (eC (.int 1)))) [.v 0 (.int turn), .v 0 (.int dig), .v 0 (.int pl)] = .ok (decide (turn % 4 = 1)) := test_ok (eq_ok (mod_ok (toInt_ok (var_ok rfl)) c_ok (by decide)) c_ok)
  have t2 : (eTest (eOp gEq (eOp gMod (eCall gToInt (aCons (eVar 0) aNil)) (eC (.int 4))) (eC (.int 2)))) [.v 0 (.int turn), .v 0 (.int dig), .v 0 (.int pl)] = .ok (decide (turn % 4 = 2)) := test_ok (eq_ok (mod_ok (toInt_ok (var_ok rfl)) c_ok (by decide)) c_ok)
  unfold m_law_symbol c_law_symbol
  cases h1 : decide (turn % 4 = 1) with
  | true =>
    rw [h1] at t1
    exact ⟨_, fn_rt rfl rfl ((seq_nx a).trans (seq_rt ((if_t t1).trans (ret_ok (own0_ok (sub_ok (pow_ok (n := 9) (by decide) (by decide)) (var_ok rfl)))))))⟩
  | false =>
    rw [h1] at t1
    cases h2 : decide (turn % 4 = 2) with
    | true =>
      rw [h2] at t2
      exact ⟨_, fn_rt rfl rfl ((seq_nx a).trans ((seq_nx (if_f t1)).trans (seq_rt ((if_t t2).trans (ret_ok (own0_ok (sub_ok (var_ok rfl) c_ok)))))))⟩
    | false =>
      rw [h2] at t2
      exact ⟨_, fn_rt rfl rfl ((seq_nx a).trans ((seq_nx (if_f t1)).trans ((seq_nx (if_f t2)).trans (retV_ok rfl))))⟩
theorem app_ill {i : Nat} {f : EB} {ss : En} {xs : List (List Int)} {v : List Int} (h1 : f ss = .ok (0, il v)) (h3 : ss[i]? = some (.v 1 (ill xs))) (h5 : xs.length < 10000000) :
    sApp i f ss = .nx (ss.set i (.v 1 (ill (xs ++ [v])))) := by
  unfold sApp
  unfold ill at h3
  simp only [h1, h3]
  rw [if_pos (by simpa using h5)]
  simp only [ill, List.map_append, List.map_cons, List.map_nil]
/-- a row of symbols -/
theorem sym_lc (ns : List Int) (turn : Int) (n2 : D) (k2 : Nat) (o3 : Sl) (row : List Int) (size : Int) (o5 : Sl) (h0 : 0 ≤ size) (h1 : size < 9) (hr : row.length = 9) :
    ∃ v : List Int, v.length ≤ 8 ∧ eLc [6] (iRg1 (aCons (eVar 5) aNil)) (tgName 6) tcYes (eFnF m_law_symbol (aCons (eVar 1) (aCons (eIx (eVar 4) (eOp gAdd (eC (.int 1)) (eVar 6))) aNil))) [.v 0 (rl ns), .v 0 (.int turn), .v k2 n2, o3, .v 1 (il row), .v 0 (.int size), o5] = .ok (1, il v) := by
  rcases Int.eq_ofNat_of_zero_le h0 with ⟨n, rfl⟩
  have hn : n ≤ 8 := by omega
  obtain ⟨sym, hsym⟩ := choose_fn (xs := List.range n) fun i hi => v_symbol turn (row.getD (1 + i) 0)
  have r1 : iRg1 (aCons (eVar 5) aNil) [.v 0 (rl ns), .v 0 (.int turn), .v k2 n2, o3, .v 1 (il row), .v 0 (.int (n : Int)), o5] = .ok ((List.range n).map fun i : Nat => D.int (0 + (i : Int))) := iRg1_ok (aOne (var_ok rfl)) (by omega)
  have q := lc_ok (vs := [6]) (tgt := tgName 6) (fe := eFnF m_law_symbol (aCons (eVar 1) (aCons (eIx (eVar 4) (eOp gAdd (eC (.int 1)) (eVar 6))) aNil))) (g := fun i => .int (sym i)) (List.range n) r1 (by rw [List.length_range]; omega) fun i hi => by
    have hi' := (List.mem_range.mp hi)
    refine ⟨[.v 0 (rl ns), .v 0 (.int turn), .v k2 n2, o3, .v 1 (il row), .v 0 (.int (n : Int)), .v 0 (.int (0 + (i : Int)))], rfl, ?_⟩
    have hx : row[1 + i]? = some (row.getD (1 + i) 0) := by rw [List.getD_eq_getElem?_getD, List.getElem?_eq_getElem (by omega)]; rfl
    have e1 : eOp gAdd (eC (.int 1)) (eVar 6) [.v 0 (rl ns), .v 0 (.int turn), .v k2 n2, o3, .v 1 (il row), .v 0 (.int (n : Int)), .v 0 (.int (0 + (i : Int)))] = .ok (0, .int ((1 + i : Nat) : Int)) := by
      have e : (1 : Int) + (0 + (i : Int)) = ((1 + i : Nat) : Int) := by omega
      rw [← e]
      exact add_ok c_ok (var_ok rfl)
    exact fnF_ok (aC_ok (var_ok rfl) (aC_ok (ixi1_ok (var_ok rfl) (by decide) e1 hx) rfl)) (hsym i hi) rfl
  refine ⟨(List.range n).map sym, by rw [List.length_map, List.length_range]; exact hn, q.trans ?_⟩
  unfold il
  rw [List.map_map]
  rfl
theorem lists_step (ns : List Int) (turn : Int) (ls : List (List Int)) (j : Nat) (o4 o5 o6 : Sl) (hj : j < 6) (hl : ls.length = j) (h8 : ∀ l ∈ ls, l.length ≤ 8) :
    ∃ v o4' o5' o6', v.length ≤ 8 ∧ c_law_lists_1 [.v 0 (rl ns), .v 0 (.int turn), .v 1 (ill ls), .v 0 (.int (j : Int)), o4, o5, o6] = .nx [.v 0 (rl ns), .v 0 (.int turn), .v 1 (ill (ls ++ [v])), .v 0 (.int (j : Int)), o4', o5', o6'] := by
  obtain ⟨c, hc, e1⟩ := v_seed ns (1 + (j : Int)) (by omega) (by omega)
  obtain ⟨row, e2, e3, e4⟩ := v_digits c 55440 9 (by decide) (by decide) (by decide)
  have hr : ∀ i, i < 9 → ∃ x, row[i]? = some x := fun i hi => ⟨row[i]'(by omega), List.getElem?_eq_getElem (by omega)⟩
  obtain ⟨x0, hx0⟩ := hr 0 (by decide)
  have b1 : (sAsg 4 (eFn m_law_digits (a0Cons (eFnF m_law_seed (aCons (eVar 0) (aCons (eOp gAdd (eC (.int 1)) (eVar 3)) aNil))) (a0Cons (eC (.int 9)) (a0Cons (eC (.int 55440)) aNil))))) [.v 0 (rl ns), .v 0 (.int turn), .v 1 (ill ls), .v 0 (.int (j : Int)), o4, o5, o6] = .nx [.v 0 (rl ns), .v 0 (.int turn), .v 1 (ill ls), .v 0 (.int (j : Int)), .v 1 (il row), o5, o6] :=
    asg_ok ((fn_ok' (a0_ok (fnF_ok (aC_ok (var_ok rfl) (aC_ok (add_ok c_ok (var_ok rfl)) rfl)) e1 rfl) (a0_ok c_ok (a0_ok c_ok rfl)))).trans e2)
  have b2 : (sAsg 5 (own0 (eOp gMod (eCall gToInt (aCons (eIx (eVar 4) (eC (.int 0))) aNil)) (eC (.int 5))))) [.v 0 (rl ns), .v 0 (.int turn), .v 1 (ill ls), .v 0 (.int (j : Int)), .v 1 (il row), o5, o6] = .nx [.v 0 (rl ns), .v 0 (.int turn), .v 1 (ill ls), .v 0 (.int (j : Int)), .v 1 (il row), .v 0 (.int (x0 % 5)), o6] :=
    asg_ok (own0_ok (mod_ok (toInt_ok (ixi1_ok (k := 0) (var_ok rfl) (by decide) c_ok hx0)) c_ok (by decide)))
  have r5 := modb x0 (b := 5) (by decide)
  obtain ⟨size, s0, s9, b3⟩ : ∃ size : Int, 0 ≤ size ∧ size < 9 ∧ (sIf (tyAnd (eTest (eOp gLt (eVar 3) (eC (.int 2)))) (eTest (eOp gEq (eOp gMod (eCall gToInt (aCons (eOp gDiv (eIx (eVar 4) (eC (.int 0))) (eC (.int 5))) aNil)) (eC (.int 8))) (eC (.int 3)))))
    (sAsg 5 (own0 (eC (.int 8)))) sNext) [.v 0 (rl ns), .v 0 (.int turn), .v 1 (ill ls), .v 0 (.int (j : Int)), .v 1 (il row), .v 0 (.int (x0 % 5)), o6] = .nx [.v 0 (rl ns), .v 0 (.int turn), .v 1 (ill ls), .v 0 (.int (j : Int)), .v 1 (il row), .v 0 (.int size), o6] := by
    have t := tand_ok (ss := [.v 0 (rl ns), .v 0 (.int turn), .v 1 (ill ls), .v 0 (.int (j : Int)), .v 1 (il row), .v 0 (.int (x0 % 5)), o6]) (test_ok (lt_ok (f1 := eVar 3) (f2 := eC (.int 2)) (var_ok rfl) c_ok)) (test_ok (eq_ok (mod_ok (toInt_ok (div_ok (ixi1_ok (f := eVar 4) (g := eC (.int 0)) (k := 0) (var_ok rfl) (by decide) c_ok hx0) (c_ok (d := .int 5)) (by decide) (by decide))) (c_ok (d := .int 8)) (by decide)) (c_ok (d := .int 3))))
    cases hb : (decide ((j : Int) < 2) && decide (x0 / 5 % 8 = 3)) with
    | true => rw [hb] at t; exact ⟨8, by decide, by decide, (if_t t).trans (asg_ok (own0_ok c_ok))⟩
    | false => rw [hb] at t; exact ⟨x0 % 5, r5.1, by omega, (if_f t).trans rfl⟩
  have t4 := tand_ok (ss := [.v 0 (rl ns), .v 0 (.int turn), .v 1 (ill ls), .v 0 (.int (j : Int)), .v 1 (il row), .v 0 (.int size), o6]) (test_ok (gt_ok (f1 := eVar 3) (f2 := eC (.int 0)) (var_ok rfl) c_ok)) (test_ok (eq_ok (mod_ok (toInt_ok (div_ok (ixi1_ok (f := eVar 4) (g := eC (.int 0)) (k := 0) (var_ok rfl) (by decide) c_ok hx0) (c_ok (d := .int 40)) (by decide) (by decide))) (c_ok (d := .int 4)) (by decide)) (c_ok (d := .int 1))))
  unfold c_law_lists_1
  cases hb : (decide (0 < (j : Int)) && decide (x0 / 40 % 4 = 1)) with
  | true =>
    rw [hb] at t4
    have hj0 : 0 < j := by
      rw [Bool.and_eq_true] at hb
      have := of_decide_eq_true hb.1
      omega
    have hjl : j - 1 < ls.length := by omega
    have gl : ls[j - 1]? = some (ls[j - 1]'hjl) := List.getElem?_eq_getElem hjl
    have h88 := h8 _ (List.getElem_mem hjl)
    generalize ls[j - 1]'hjl = l at *
    have ix : eIx (eVar 2) (eOp Mv.gSub (eVar 3) (eC (.int 1))) [.v 0 (rl ns), .v 0 (.int turn), .v 1 (ill ls), .v 0 (.int (j : Int)), .v 1 (il row), .v 0 (.int size), o6] = .ok (0, il l) := by
      have e5 : ((j : Int) - 1) = ((j - 1 : Nat) : Int) := by omega
      have s5 := sub_ok (ss := [.v 0 (rl ns), .v 0 (.int turn), .v 1 (ill ls), .v 0 (.int (j : Int)), .v 1 (il row), .v 0 (.int size), o6]) (f1 := eVar 3) (f2 := eC (.int 1)) (var_ok rfl) c_ok
      rw [e5] at s5
      unfold eIx
      rw [var_ok (i := 2) (n := 1) (d := ill ls) rfl]
      simp only [s5, ill_ix gl]
    refine ⟨l.take 4, _, _, _, by rw [List.length_take]; omega, (seq_nx b1).trans ((seq_nx b2).trans ((seq_nx b3).trans ((if_t t4).trans (app_ill (own0_ok (frz_ok (list_il (frz_ok (sl_to (a := 4) ix (by decide) c_ok)) (by decide)))) rfl (by omega)))))⟩
  | false =>
    rw [hb] at t4
    obtain ⟨v, hv, e6⟩ := sym_lc ns turn (ill ls) 1 (.v 0 (.int (j : Int))) row size o6 s0 s9 e3
    exact ⟨v, _, _, _, hv, (seq_nx b1).trans ((seq_nx b2).trans ((seq_nx b3).trans ((if_f t4).trans (app_ill (own0_ok (frz_ok e6)) rfl (by omega)))))⟩
theorem v_lists (ns : List Int) (turn : Int) : ∃ ls : List (List Int), m_law_lists [rl ns, .int turn] = .ok (1, ill ls) ∧ ls.length ≤ 5 ∧ ∀ l ∈ ls, l.length ≤ 8 := by
  have r := modb (turn / 24) (b := 6) (by decide)
  obtain ⟨n, hn⟩ := Int.eq_ofNat_of_zero_le r.1
  obtain ⟨s', h1, ls, o3, o4, o5, o6, h2, h3, h4⟩ := loop_nx (step := stepF (tgName 3) c_law_lists_1) (fun k st => ∃ (ls : List (List Int)) (o3 o4 o5 o6 : Sl), st = [.v 0 (rl ns), .v 0 (.int turn), .v 1 (ill ls), o3, o4, o5, o6] ∧ ls.length = k ∧ ∀ l ∈ ls, l.length ≤ 8) (rngD 0 n)
    [.v 0 (rl ns), .v 0 (.int turn), .v 1 (ill []), .un, .un, .un, .un] ⟨[], _, _, _, _, rfl, rfl, fun x hx => by cases hx⟩ (by
      rintro k d st hd ⟨ls, o3, o4, o5, o6, rfl, h3, h4⟩
      obtain ⟨hk, rfl⟩ := rngD_get hd
      have se : ([.v 0 (rl ns), .v 0 (.int turn), .v 1 (ill ls), o3, o4, o5, o6] : En).set 3 (.v 0 (.int (0 + (k : Int)))) = [.v 0 (rl ns), .v 0 (.int turn), .v 1 (ill ls), .v 0 (.int (k : Int)), o4, o5, o6] := by
        rw [Int.zero_add]; rfl
      obtain ⟨v, o4', o5', o6', hv, e⟩ := lists_step ns turn ls k o4 o5 o6 (by omega) h3 h4
      refine ⟨_, .inl ((step_eq se).trans e), ls ++ [v], _, _, _, _, rfl, by rw [List.length_append, h3]; rfl, fun x hx => ?_⟩
      obtain hx | hx := List.mem_append.mp hx
      · exact h4 x hx
      · rw [List.mem_singleton.mp hx]; exact hv)
  rw [rngD_len] at h3
  subst h2
  refine ⟨ls, ?_, by omega, h4⟩
  have a1 : (sAsg 2 (eLst aNil)) [.v 0 (rl ns), .v 0 (.int turn), .un, .un, .un, .un, .un] = .nx [.v 0 (rl ns), .v 0 (.int turn), .v 1 (ill []), .un, .un, .un, .un] := asg_ok rfl
  have g : aCons (eOp gMod (eCall gToInt (aCons (eOp gDiv (eVar 1) (eC (.int 24))) aNil)) (eC (.int 6))) aNil [.v 0 (rl ns), .v 0 (.int turn), .v 1 (ill []), .un, .un, .un, .un] = .ok [.int (n : Int)] := by
    rw [← hn]
    exact aOne (mod_ok (toInt_ok (div_ok (var_ok rfl) c_ok (by decide) (by decide))) c_ok (by decide))
  have a3 := for_rng (t := tgName 3) (F := c_law_lists_1) g (by omega)
  unfold m_law_lists c_law_lists
  exact fn_rt rfl rfl ((seq_nx a1).trans ((seq_nx (a3.trans h1)).trans (retV_ok rfl)))
end K13

namespace K13
open PySem L2 Mv
def wait (ls : List (List Int)) (spots : List Nat) (i : Nat) : Bool := match spots[i]?, ls[i]? with
  | some d, some l => decide (d < l.length)
  | _, _ => false
theorem wait_at {ls : List (List Int)} {spots : List Nat} {i : Nat} (h : wait ls spots i = true) : ∃ d l, spots[i]? = some d ∧ ls[i]? = some l ∧ d < l.length := by
  unfold wait at h
  cases hd : spots[i]? with
  | none => rw [hd] at h; simp at h
  | some d =>
    cases hl : ls[i]? with
    | none => rw [hd, hl] at h; simp at h
    | some l => rw [hd, hl] at h; exact ⟨d, l, rfl, rfl, of_decide_eq_true h⟩
theorem W_ne {W : List Nat} (h : W.Nodup) {i j u v : Nat} (h1 : W[i]? = some u) (h2 : W[j]? = some v) (hij : i < j) : u ≠ v := by
  obtain ⟨hi, e1⟩ := List.getElem?_eq_some_iff.mp h1
  obtain ⟨hj, e2⟩ := List.getElem?_eq_some_iff.mp h2
  have := List.pairwise_iff_getElem.mp h i j hi hj hij
  rw [e1, e2] at this
  exact this
theorem iln_at {f g : EB} {ss : En} {m n k d : Nat} {dn : List Nat} (h : f ss = .ok (n, iln dn)) (hn : n ≤ 1) (hg : g ss = .ok (m, .int (k : Int))) (hx : dn[k]? = some d) : eIx f g ss = .ok (0, .int (d : Int)) :=
  ixi1_ok h hn hg (by rw [List.getElem?_map, hx]; rfl)
theorem ill_at {f g : EB} {ss : En} {m k : Nat} {xs : List (List Int)} {x : List Int} (h : f ss = .ok (0, ill xs)) (hg : g ss = .ok (m, .int (k : Int))) (hx : xs[k]? = some x) : eIx f g ss = .ok (0, il x) := by
  unfold eIx; rw [h]; simp only [hg, ill_ix hx]
theorem woven_inner (ls : List (List Int)) (extra row bs : List Int) (c : Int) (spots : List Nat) (k w : Nat) (sym : Int) (x : Int) (o8 : Sl) (hx : row[k]? = some x) (W : List Nat) (hW : W.Nodup) (hp : ∀ u ∈ W, wait ls spots u = true) :
    ∃ spots' o8', spots'.length = spots.length ∧ loop (stepF (tgName 8) c_law_woven_1) ((W.map fun a : Nat => (a : Int)).map D.int) [.v 0 (ill ls), .v 0 (il extra), .v 0 (.int c), .v 1 (il row), .v 1 (iln spots), .v 1 (il bs), .v 0 (.int (k : Int)), .v 0 (iln W), o8, .v 0 (.int (w : Int)), .v 0 (.int sym)] =
      .nx [.v 0 (ill ls), .v 0 (il extra), .v 0 (.int c), .v 1 (il row), .v 1 (iln spots'), .v 1 (il bs), .v 0 (.int (k : Int)), .v 0 (iln W), o8', .v 0 (.int (w : Int)), .v 0 (.int sym)] := by
  obtain ⟨s', h1, spots', o8', h2, h3, _⟩ := loop_nx (step := stepF (tgName 8) c_law_woven_1) (fun i st => ∃ (sp : List Nat) (o : Sl), st = [.v 0 (ill ls), .v 0 (il extra), .v 0 (.int c), .v 1 (il row), .v 1 (iln sp), .v 1 (il bs), .v 0 (.int (k : Int)), .v 0 (iln W), o, .v 0 (.int (w : Int)), .v 0 (.int sym)] ∧ sp.length = spots.length ∧ ∀ i' u, i ≤ i' → W[i']? = some u → sp[u]? = spots[u]?)
    ((W.map fun a : Nat => (a : Int)).map D.int) [.v 0 (ill ls), .v 0 (il extra), .v 0 (.int c), .v 1 (il row), .v 1 (iln spots), .v 1 (il bs), .v 0 (.int (k : Int)), .v 0 (iln W), o8, .v 0 (.int (w : Int)), .v 0 (.int sym)] ⟨spots, o8, rfl, rfl, fun _ _ _ _ => rfl⟩ (by
      rintro i d st hd ⟨sp, o, rfl, h3, h4⟩
      rw [List.getElem?_map, List.getElem?_map] at hd
      cases hu : W[i]? with
      | none => rw [hu] at hd; cases hd
      | some u =>
        rw [hu] at hd
        cases hd
        obtain ⟨du, lu, g1, g2, g3⟩ := wait_at (hp u (List.mem_of_getElem? hu))
        have g1' : sp[u]? = some du := (h4 i u (Nat.le_refl _) hu).trans g1
        have g4 : lu[du]? = some lu[du] := List.getElem?_eq_getElem g3
        have hul : u < sp.length := by obtain ⟨z, _⟩ := List.getElem?_eq_some_iff.mp g1'; exact z
        have t1 : (eTest (eOp gEq (eVar 8) (eVar 9))) [.v 0 (ill ls), .v 0 (il extra), .v 0 (.int c), .v 1 (il row), .v 1 (iln sp), .v 1 (il bs), .v 0 (.int (k : Int)), .v 0 (iln W), .v 0 (.int (u : Int)), .v 0 (.int (w : Int)), .v 0 (.int sym)] = .ok (decide ((u : Int) = (w : Int))) := test_ok (eq_ok (var_ok rfl) (var_ok rfl))
        have t2 : (eTest (eOp gEq (eOp gMod (eCall gToInt (aCons (eOp gDiv (eIx (eVar 3) (eVar 6)) (eC (.int 240))) aNil)) (eC (.int 2))) (eC (.int 1)))) [.v 0 (ill ls), .v 0 (il extra), .v 0 (.int c), .v 1 (il row), .v 1 (iln sp), .v 1 (il bs), .v 0 (.int (k : Int)), .v 0 (iln W), .v 0 (.int (u : Int)), .v 0 (.int (w : Int)), .v 0 (.int sym)] = .ok (decide (x / 240 % 2 = 1)) :=
          test_ok (eq_ok (mod_ok (toInt_ok (div_ok (ixi1_ok (var_ok rfl) (by decide) (var_ok rfl) hx) c_ok (by decide) (by decide))) c_ok (by decide)) c_ok)
        have t3 : (eTest (eOp gEq (eIx (eIx (eVar 0) (eVar 8)) (eIx (eVar 4) (eVar 8))) (eVar 10))) [.v 0 (ill ls), .v 0 (il extra), .v 0 (.int c), .v 1 (il row), .v 1 (iln sp), .v 1 (il bs), .v 0 (.int (k : Int)), .v 0 (iln W), .v 0 (.int (u : Int)), .v 0 (.int (w : Int)), .v 0 (.int sym)] = .ok (decide (lu[du] = sym)) :=
          test_ok (eq_ok (ixi_ok (ill_at (var_ok rfl) (var_ok rfl) g2) (iln_at (var_ok rfl) (by decide) (var_ok rfl) g1') g4) (var_ok rfl))
        have t := tor_ok t1 (tand_ok t2 t3)
        have se : ([.v 0 (ill ls), .v 0 (il extra), .v 0 (.int c), .v 1 (il row), .v 1 (iln sp), .v 1 (il bs), .v 0 (.int (k : Int)), .v 0 (iln W), o, .v 0 (.int (w : Int)), .v 0 (.int sym)] : En).set 8 (.v 0 (.int (u : Int))) = [.v 0 (ill ls), .v 0 (il extra), .v 0 (.int c), .v 1 (il row), .v 1 (iln sp), .v 1 (il bs), .v 0 (.int (k : Int)), .v 0 (iln W), .v 0 (.int (u : Int)), .v 0 (.int (w : Int)), .v 0 (.int sym)] := rfl
        cases hb : (decide ((u : Int) = (w : Int)) || (decide (x / 240 % 2 = 1) && decide (lu[du] = sym))) with
        | true =>
          rw [hb] at t
          have q : c_law_woven_1 [.v 0 (ill ls), .v 0 (il extra), .v 0 (.int c), .v 1 (il row), .v 1 (iln sp), .v 1 (il bs), .v 0 (.int (k : Int)), .v 0 (iln W), .v 0 (.int (u : Int)), .v 0 (.int (w : Int)), .v 0 (.int sym)] = .nx [.v 0 (ill ls), .v 0 (il extra), .v 0 (.int c), .v 1 (il row), .v 1 (il ((sp.map fun a : Nat => (a : Int)).set u ((du : Int) + 1))), .v 1 (il bs), .v 0 (.int (k : Int)), .v 0 (iln W), .v 0 (.int (u : Int)), .v 0 (.int (w : Int)), .v 0 (.int sym)] := by
            unfold c_law_woven_1
            exact (if_t t).trans (setI_il (xs := sp.map fun a : Nat => (a : Int)) (own0_ok (add_ok (iln_at (var_ok rfl) (by decide) (var_ok rfl) g1') c_ok)) (var_ok rfl) rfl rfl (by rw [List.length_map]; exact hul))
          have q2 : il ((sp.map fun a : Nat => (a : Int)).set u ((du : Int) + 1)) = iln (sp.set u (du + 1)) := by
            unfold iln
            rw [List.map_set]
            rfl
          rw [q2] at q
          refine ⟨_, .inl ((step_eq se).trans q), sp.set u (du + 1), _, rfl, by rw [List.length_set]; exact h3, fun i' v hi hv => ?_⟩
          rw [List.getElem?_set_ne (W_ne hW hu hv (by omega))]
          exact h4 i' v (by omega) hv
        | false =>
          rw [hb] at t
          refine ⟨_, .inl ((step_eq se).trans (if_f t)), sp, _, rfl, h3, fun i' v hi hv => h4 i' v (by omega) hv⟩)
  subst h2
  exact ⟨spots', o8', h3, h1⟩
theorem woven_step (ls : List (List Int)) (extra row bs : List Int) (c : Int) (spots : List Nat) (k : Nat) (x : Int) (o7 o8 o9 o10 : Sl) (hx : row[k]? = some x) (hk : k < 40) (he : extra.length = 6) (hn : ls.length ≤ 100) (hs : spots.length = ls.length) (hbs : bs.length ≤ k) :
    ∃ spots' bs' o7' o8' o9' o10', spots'.length = spots.length ∧ bs'.length ≤ k + 1 ∧ c_law_woven_2 [.v 0 (ill ls), .v 0 (il extra), .v 0 (.int c), .v 1 (il row), .v 1 (iln spots), .v 1 (il bs), .v 0 (.int (k : Int)), o7, o8, o9, o10] =
      .nx [.v 0 (ill ls), .v 0 (il extra), .v 0 (.int c), .v 1 (il row), .v 1 (iln spots'), .v 1 (il bs'), .v 0 (.int (k : Int)), o7', o8', o9', o10'] := by
  obtain ⟨W, hWd⟩ : ∃ W, W = (List.range ls.length).filter (wait ls spots) := ⟨_, rfl⟩
  have hW : W.Nodup := by rw [hWd]; exact List.nodup_range.filter _
  have hp : ∀ u ∈ W, wait ls spots u = true := fun u hu => by rw [hWd] at hu; exact (List.mem_filter.mp hu).2
  have b1 : (sAsg 7 (eLc [8] (iRg1 (aCons (eCall gLen (aCons (eVar 0) aNil)) aNil)) (tgName 8) (eTest (eOp gLt (eIx (eVar 4) (eVar 8)) (eCall gLen (aCons (eIx (eVar 0) (eVar 8)) aNil)))) (eVar 8))) [.v 0 (ill ls), .v 0 (il extra), .v 0 (.int c), .v 1 (il row), .v 1 (iln spots), .v 1 (il bs), .v 0 (.int (k : Int)), o7, o8, o9, o10] =
      .nx [.v 0 (ill ls), .v 0 (il extra), .v 0 (.int c), .v 1 (il row), .v 1 (iln spots), .v 1 (il bs), .v 0 (.int (k : Int)), .v 1 (iln W), o8, o9, o10] := by
    have r1 : iRg1 (aCons (eCall gLen (aCons (eVar 0) aNil)) aNil) [.v 0 (ill ls), .v 0 (il extra), .v 0 (.int c), .v 1 (il row), .v 1 (iln spots), .v 1 (il bs), .v 0 (.int (k : Int)), o7, o8, o9, o10] = .ok ((List.range ls.length).map fun i : Nat => D.int (0 + (i : Int))) := iRg1_ok (aOne (len_ill (i := 0) (xs := ls) rfl)) (by omega)
    have q := lcF_ok (vs := [8]) (tgt := tgName 8) (tc := eTest (eOp gLt (eIx (eVar 4) (eVar 8)) (eCall gLen (aCons (eIx (eVar 0) (eVar 8)) aNil)))) (fe := eVar 8) (g := fun i : Nat => D.int (i : Int)) (p := wait ls spots) (List.range ls.length) r1 (by rw [List.length_range]; omega) fun i hi => by
      have hi' := (List.mem_range.mp hi)
      have g1 : spots[i]? = some (spots[i]'(by omega)) := List.getElem?_eq_getElem (by omega)
      have g2 : ls[i]? = some ls[i] := List.getElem?_eq_getElem hi'
      have ew : wait ls spots i = decide ((spots[i]'(by omega)) < ls[i].length) := by unfold wait; rw [g1, g2]
      rw [ew]
      generalize spots[i]'(by omega) = d at *
      generalize ls[i] = l at *
      refine ⟨[.v 0 (ill ls), .v 0 (il extra), .v 0 (.int c), .v 1 (il row), .v 1 (iln spots), .v 1 (il bs), .v 0 (.int (k : Int)), o7, .v 0 (.int (i : Int)), o9, o10], by rw [Int.zero_add]; rfl, ?_, var_ok rfl⟩
      have t := test_ok (lt_ok (iln_at (ss := [.v 0 (ill ls), .v 0 (il extra), .v 0 (.int c), .v 1 (il row), .v 1 (iln spots), .v 1 (il bs), .v 0 (.int (k : Int)), o7, .v 0 (.int (i : Int)), o9, o10]) (f := eVar 4) (g := eVar 8) (var_ok rfl) (by decide) (var_ok rfl) g1) (call_ok (aOne (ill_at (f := eVar 0) (g := eVar 8) (var_ok rfl) (var_ok rfl) g2)) il_len))
      rw [decide_eq_decide.mpr (show (d : Int) < (l.length : Int) ↔ d < l.length by omega)] at t
      exact t
    refine asg_ok (q.trans ?_)
    rw [← hWd]
    unfold iln il
    rw [List.map_map]
    rfl
  have t1 : (tyAnd (eTest (eOp gLt (eVar 6) (eC (.int 12)))) (eTest (eOp gEq (eOp gMod (eCall gToInt (aCons (eIx (eVar 3) (eVar 6)) aNil)) (eC (.int 4))) (eC (.int 1))))) [.v 0 (ill ls), .v 0 (il extra), .v 0 (.int c), .v 1 (il row), .v 1 (iln spots), .v 1 (il bs), .v 0 (.int (k : Int)), .v 1 (iln W), o8, o9, o10] = .ok (decide ((k : Int) < 12) && decide (x % 4 = 1)) :=
    tand_ok (test_ok (lt_ok (var_ok rfl) c_ok)) (test_ok (eq_ok (mod_ok (toInt_ok (ixi1_ok (var_ok rfl) (by decide) (var_ok rfl) hx)) c_ok (by decide)) c_ok))
  have lW : eCall gLen (aCons (eVar 7) aNil) [.v 0 (ill ls), .v 0 (il extra), .v 0 (.int c), .v 1 (il row), .v 1 (iln spots), .v 1 (il bs), .v 0 (.int (k : Int)), .v 1 (iln W), o8, o9, o10] = .ok (0, .int (W.length : Int)) := by
    have := len_il (i := 7) (n := 1) (ss := [.v 0 (ill ls), .v 0 (il extra), .v 0 (.int c), .v 1 (il row), .v 1 (iln spots), .v 1 (il bs), .v 0 (.int (k : Int)), .v 1 (iln W), o8, o9, o10]) (xs := W.map fun a : Nat => (a : Int)) rfl
    rw [List.length_map] at this
    exact this
  have dv : ∀ (o : Sl), (eCall gToInt (aCons (eOp gDiv (eIx (eVar 3) (eVar 6)) (eC (.int 4))) aNil)) [.v 0 (ill ls), .v 0 (il extra), .v 0 (.int c), .v 1 (il row), .v 1 (iln spots), .v 1 (il bs), .v 0 (.int (k : Int)), .v 1 (iln W), o8, o9, o10] = .ok (0, .int (x / 4)) := fun o =>
    toInt_ok (div_ok (ixi1_ok (var_ok rfl) (by decide) (var_ok rfl) hx) c_ok (by decide) (by decide))
  unfold c_law_woven_2
  cases hb : (decide ((k : Int) < 12) && decide (x % 4 = 1)) with
  | true =>
    rw [hb] at t1
    have r := modb (x / 4) (b := (extra.length : Int)) (by omega)
    obtain ⟨i, hi⟩ := Int.eq_ofNat_of_zero_le r.1
    have hil : i < extra.length := by have := r.2; omega
    have m := mod_ok (dv .un) (len_il (i := 1) (n := 0) (xs := extra) rfl) (by omega)
    rw [hi] at m
    exact ⟨spots, bs ++ [extra[i]], _, _, _, _, rfl, by rw [List.length_append]; simp; omega, (seq_nx b1).trans ((if_t t1).trans (app_il (own0_ok (ixi_ok (var_ok rfl) m (List.getElem?_eq_getElem hil))) rfl (by omega)))⟩
  | false =>
    rw [hb] at t1
    have t2 := test_ok (gt_ok lW (c_ok (d := .int 0)))
    cases hc : decide (0 < (W.length : Int)) with
    | false =>
      rw [hc] at t2
      exact ⟨spots, bs, _, _, _, _, rfl, by omega, (seq_nx b1).trans ((if_f t1).trans (if_f t2))⟩
    | true =>
      rw [hc] at t2
      have hW0 := of_decide_eq_true hc
      have r := modb (x / 4) (b := (W.length : Int)) hW0
      obtain ⟨i, hi⟩ := Int.eq_ofNat_of_zero_le r.1
      have hil : i < W.length := by have := r.2; omega
      have m := mod_ok (dv .un) lW hW0
      rw [hi] at m
      have gw : W[i]? = some W[i] := List.getElem?_eq_getElem hil
      obtain ⟨d, l, g1, g2, g3⟩ := wait_at (hp W[i] (List.getElem_mem hil))
      generalize W[i] = w at *
      have b2 : (sAsg 9 (own0 (eIx (eVar 7) (eOp gMod (eCall gToInt (aCons (eOp gDiv (eIx (eVar 3) (eVar 6)) (eC (.int 4))) aNil)) (eCall gLen (aCons (eVar 7) aNil)))))) [.v 0 (ill ls), .v 0 (il extra), .v 0 (.int c), .v 1 (il row), .v 1 (iln spots), .v 1 (il bs), .v 0 (.int (k : Int)), .v 1 (iln W), o8, o9, o10] = .nx [.v 0 (ill ls), .v 0 (il extra), .v 0 (.int c), .v 1 (il row), .v 1 (iln spots), .v 1 (il bs), .v 0 (.int (k : Int)), .v 1 (iln W), o8, .v 0 (.int (w : Int)), o10] :=
        asg_ok (own0_ok (iln_at (var_ok rfl) (by decide) m gw))
      have g4 : l[d]? = some l[d] := List.getElem?_eq_getElem g3
      generalize l[d] = sym at *
      have b3 : (sAsg 10 (own0 (eIx (eIx (eVar 0) (eVar 9)) (eIx (eVar 4) (eVar 9))))) [.v 0 (ill ls), .v 0 (il extra), .v 0 (.int c), .v 1 (il row), .v 1 (iln spots), .v 1 (il bs), .v 0 (.int (k : Int)), .v 1 (iln W), o8, .v 0 (.int (w : Int)), o10] = .nx [.v 0 (ill ls), .v 0 (il extra), .v 0 (.int c), .v 1 (il row), .v 1 (iln spots), .v 1 (il bs), .v 0 (.int (k : Int)), .v 1 (iln W), o8, .v 0 (.int (w : Int)), .v 0 (.int sym)] :=
        asg_ok (own0_ok (ixi_ok (ill_at (var_ok rfl) (var_ok rfl) g2) (iln_at (var_ok rfl) (by decide) (var_ok rfl) g1) g4))
      have b4 : (sApp 5 (own0 (eVar 10))) [.v 0 (ill ls), .v 0 (il extra), .v 0 (.int c), .v 1 (il row), .v 1 (iln spots), .v 1 (il bs), .v 0 (.int (k : Int)), .v 1 (iln W), o8, .v 0 (.int (w : Int)), .v 0 (.int sym)] = .nx [.v 0 (ill ls), .v 0 (il extra), .v 0 (.int c), .v 1 (il row), .v 1 (iln spots), .v 1 (il (bs ++ [sym])), .v 0 (.int (k : Int)), .v 1 (iln W), o8, .v 0 (.int (w : Int)), .v 0 (.int sym)] :=
        app_il (own0_ok (var_ok rfl)) rfl (by omega)
      obtain ⟨spots', o8', hl', b6⟩ := woven_inner ls extra row (bs ++ [sym]) c spots k w sym x o8 hx W hW hp
      have b5 : (sFrz 7 (sFor (iSeq (eVar 7)) (tgName 8) c_law_woven_1)) [.v 0 (ill ls), .v 0 (il extra), .v 0 (.int c), .v 1 (il row), .v 1 (iln spots), .v 1 (il (bs ++ [sym])), .v 0 (.int (k : Int)), .v 1 (iln W), o8, .v 0 (.int (w : Int)), .v 0 (.int sym)] = _ :=
        Eq.trans (frzS_at (n := 1) (d := iln W) rfl) (Eq.trans (for_il (ss := [.v 0 (ill ls), .v 0 (il extra), .v 0 (.int c), .v 1 (il row), .v 1 (iln spots), .v 1 (il (bs ++ [sym])), .v 0 (.int (k : Int)), .v 0 (iln W), o8, .v 0 (.int (w : Int)), .v 0 (.int sym)]) (var_ok rfl)) b6)
      exact ⟨spots', bs ++ [sym], _, _, _, _, hl', by rw [List.length_append]; simp; omega, (seq_nx b1).trans ((if_f t1).trans ((if_t t2).trans ((seq_nx b2).trans ((seq_nx b3).trans ((seq_nx b4).trans b5)))))⟩

theorem v_woven (ls : List (List Int)) (extra : List Int) (c : Int) (he : extra.length = 6) (hn : ls.length ≤ 100) : ∃ bs, m_law_woven [ill ls, il extra, .int c] = .ok (1, il bs) ∧ bs.length ≤ 40 := by
  obtain ⟨row, e1, e2, e3⟩ := v_digits c 55440 40 (by decide) (by decide) (by decide)
  obtain ⟨s', h1, spots, bs, o6, o7, o8, o9, o10, h2, h3, h4⟩ := loop_nx (step := stepF (tgName 6) c_law_woven_2) (fun k st => ∃ (spots : List Nat) (bs : List Int) (o6 o7 o8 o9 o10 : Sl), st = [.v 0 (ill ls), .v 0 (il extra), .v 0 (.int c), .v 1 (il row), .v 1 (iln spots), .v 1 (il bs), o6, o7, o8, o9, o10] ∧ spots.length = ls.length ∧ bs.length ≤ k) (rngD 0 40)
    [.v 0 (ill ls), .v 0 (il extra), .v 0 (.int c), .v 1 (il row), .v 1 (iln (List.replicate ls.length 0)), .v 1 (il []), .un, .un, .un, .un, .un] ⟨_, _, _, _, _, _, _, rfl, by rw [List.length_replicate], by simp⟩ (by
      rintro k d st hd ⟨spots, bs, o6, o7, o8, o9, o10, rfl, h3, h4⟩
      obtain ⟨hk, rfl⟩ := rngD_get hd
      have se : ([.v 0 (ill ls), .v 0 (il extra), .v 0 (.int c), .v 1 (il row), .v 1 (iln spots), .v 1 (il bs), o6, o7, o8, o9, o10] : En).set 6 (.v 0 (.int (0 + (k : Int)))) = [.v 0 (ill ls), .v 0 (il extra), .v 0 (.int c), .v 1 (il row), .v 1 (iln spots), .v 1 (il bs), .v 0 (.int (k : Int)), o7, o8, o9, o10] := by
        rw [Int.zero_add]; rfl
      obtain ⟨spots', bs', o7', o8', o9', o10', q1, q2, e⟩ := woven_step ls extra row bs c spots k (row[k]'(by omega)) o7 o8 o9 o10 (List.getElem?_eq_getElem (by omega)) hk he hn h3 h4
      exact ⟨_, .inl ((step_eq se).trans e), spots', bs', _, _, _, _, _, rfl, by rw [q1, h3], q2⟩)
  rw [rngD_len] at h4
  subst h2
  refine ⟨bs, ?_, h4⟩
  have a1 : (sAsg 3 (eFn m_law_digits (a0Cons (eVar 2) (a0Cons (eC (.int 40)) (a0Cons (eC (.int 55440)) aNil))))) [.v 0 (ill ls), .v 0 (il extra), .v 0 (.int c), .un, .un, .un, .un, .un, .un, .un, .un] = .nx [.v 0 (ill ls), .v 0 (il extra), .v 0 (.int c), .v 1 (il row), .un, .un, .un, .un, .un, .un, .un] :=
    asg_ok ((fn_ok' (a0_ok (var_ok rfl) (a0_ok c_ok (a0_ok c_ok rfl)))).trans e1)
  have e0 : iln (List.replicate ls.length 0) = il (List.replicate ls.length 0) := by unfold iln; rw [List.map_replicate]; rfl
  have a2 : (sAsg 4 (eRep (frzE (eLst (a0Cons (eC (.int 0)) aNil))) (eCall gLen (aCons (eVar 0) aNil)))) [.v 0 (ill ls), .v 0 (il extra), .v 0 (.int c), .v 1 (il row), .un, .un, .un, .un, .un, .un, .un] = .nx [.v 0 (ill ls), .v 0 (il extra), .v 0 (.int c), .v 1 (il row), .v 1 (iln (List.replicate ls.length 0)), .un, .un, .un, .un, .un, .un] := by
    rw [e0]
    exact asg_ok (rep_zero (len_ill (xs := ls) rfl) (by omega))
  have a3 : (sAsg 5 (eLst aNil)) [.v 0 (ill ls), .v 0 (il extra), .v 0 (.int c), .v 1 (il row), .v 1 (iln (List.replicate ls.length 0)), .un, .un, .un, .un, .un, .un] = .nx [.v 0 (ill ls), .v 0 (il extra), .v 0 (.int c), .v 1 (il row), .v 1 (iln (List.replicate ls.length 0)), .v 1 (il []), .un, .un, .un, .un, .un] := asg_ok rfl
  have a4 := for_rng (t := tgName 6) (F := c_law_woven_2) (g := aCons (eC (.int 40)) aNil) (n := 40) (ss := [.v 0 (ill ls), .v 0 (il extra), .v 0 (.int c), .v 1 (il row), .v 1 (iln (List.replicate ls.length 0)), .v 1 (il []), .un, .un, .un, .un, .un]) rfl (by decide)
  unfold m_law_woven c_law_woven
  exact fn_rt rfl rfl ((seq_nx a1).trans ((seq_nx a2).trans ((seq_nx a3).trans ((seq_nx (a4.trans h1)).trans (retV_ok rfl)))))
end K13

namespace K13
open PySem L2 Mv
theorem add1_ok {f : EB} {ss : En} {n p : Nat} (h : f ss = .ok (n, .int (p : Int))) : eOp gAdd f (eC (.int 1)) ss = .ok (0, .int ((p + 1 : Nat) : Int)) := by
  have q := add_ok h (c_ok (ss := ss) (d := .int 1))
  rw [show (p : Int) + 1 = ((p + 1 : Nat) : Int) by omega] at q
  exact q
theorem max_ok {f : EB} {ss : En} {m : Nat} {n : Nat} (h : f ss = .ok (m, .int (n : Int))) : ∃ M : Int, 0 < M ∧ eCall gMax2 (aCons (eC (.int 1)) (aCons f aNil)) ss = .ok (0, .int M) :=
  ⟨if (n : Int) > 1 then (n : Int) else 1, by split <;> omega, call_ok (aC_ok c_ok (aOne h)) rfl⟩
theorem rep_il {f1 f2 : EB} {ss : En} {m n k : Nat} {xs : List Int} (h1 : f1 ss = .ok (n, il xs)) (hn : n ≤ 1) (h2 : f2 ss = .ok (m, .int (k : Int))) (hk : k ≤ 1000000) (hl : xs.length * k ≤ 10000000) : eRep f1 f2 ss = .ok (1, il (List.replicate k xs).flatten) := by
  unfold eRep
  unfold il at h1
  rw [h1]
  simp only [h2, smallI_nat (show k ≤ 1000000000 by omega), Int.toNat_natCast]
  rw [if_pos ⟨hn, True.intro, by simpa using hl⟩]
  unfold il
  rw [List.map_flatten,
    List.map_replicate]
theorem isi_ok {f : EB} {ss : En} {n : Nat} {d : D} {T : String} {b : Bool} (h : f ss = .ok (n, d)) (hg : gIsi T d = some (.bl b)) : eUn (gIsi T) f ss = .ok (0, .bl b) := un_ok h hg
theorem isi_list (xs : List Int) : gIsi "list" (il xs) = some (.bl true) := by
  unfold gIsi il kindOf; simp [tyNames, isKind]
theorem isi_int (x : Int) : gIsi "int" (.int x) = some (.bl true) := by
  unfold gIsi kindOf; simp [tyNames, isKind]
theorem isi_int_b (x : Int) : gIsi "bool" (.int x) = some (.bl false) := by
  unfold gIsi kindOf; simp [tyNames, isKind]
theorem isi_bl (x : Bool) : gIsi "bool" (.bl x) = some (.bl true) := by
  unfold gIsi kindOf; simp [tyNames, isKind]
theorem v_is_int (x : Int) : m_law_is_int [.int x] = .ok (0, .bl true) := by
  unfold m_law_is_int c_law_is_int
  exact fn_rt rfl rfl (ret_ok (own0_ok (and_ok0 (isi_ok (var_ok rfl) (isi_int x)) (not_ok (isi_ok (var_ok rfl) (isi_int_b x))))))
theorem v_ints (xs : List Int) : m_law_ints [il xs] = .ok (0, .bl true) := by
  have t : (tyNot (eTest (eUn (gIsi "list") (eVar 0)))) [.v 0 (il xs), .un] = .ok false := tnot_ok (test_ok (isi_ok (var_ok rfl) (isi_list xs)))
  have h := (loop_all (step := stepF (tgName 1) c_law_ints_1) (f := D.int) (p := fun _ => true) (A := fun o => [.v 0 (il xs), o]) (n := 0) (v := .bl false) xs .un fun x _ o => by
    refine ⟨fun _ => ⟨.v 0 (.int x), ?_⟩, fun z => by cases z⟩
    have t : (tyNot (eTest (eFnF m_law_is_int (aCons (eVar 1) aNil)))) [.v 0 (il xs), .v 0 (.int x)] = .ok false := tnot_ok (test_ok (fnF_ok (aOne (var_ok rfl)) (v_is_int x) rfl))
    have q : c_law_ints_1 [.v 0 (il xs), .v 0 (.int x)] = .nx [.v 0 (il xs), .v 0 (.int x)] := by
      unfold c_law_ints_1
      exact (if_f t).trans rfl
    exact (step_eq rfl).trans q).1 (by simp)
  obtain ⟨o', h1⟩ := h
  have b : (sFrz 0 (sFor (iSeq (eVar 0)) (tgName 1) c_law_ints_1)) [.v 0 (il xs), .un] = _ := Eq.trans (frzS_at (n := 0) (d := il xs) rfl) (Eq.trans (for_il (ss := [.v 0 (il xs), .un]) (var_ok rfl)) h1)
  unfold m_law_ints c_law_ints
  exact fn_rt rfl rfl ((seq_nx (if_f t)).trans ((seq_nx b).trans (ret_ok (own0_ok c_ok))))
theorem v_beats (ns : List Int) (ls : List (List Int)) (turn : Int) (hn : ls.length ≤ 100) : ∃ bs, m_law_beats [rl ns, ill ls, .int turn] = .ok (1, il bs) ∧ bs.length ≤ 40 := by
  obtain ⟨sym, hsym⟩ := choose_fn (xs := List.range 6) fun i _ => v_symbol turn (0 + (i : Int))
  obtain ⟨ex, hex⟩ : ∃ ex, ex = (List.range 6).map sym := ⟨_, rfl⟩
  have hel : ex.length = 6 := by rw [hex, List.length_map, List.length_range]
  obtain ⟨c6, _, e6⟩ := v_seed ns 6 (by decide) (by decide)
  obtain ⟨c7, _, e7⟩ := v_seed ns 7 (by decide) (by decide)
  obtain ⟨bs, eb, hb40⟩ := v_woven ls ex c6 hel hn
  obtain ⟨row, er, hrl, _⟩ := v_digits c7 55440 21 (by decide) (by decide) (by decide)
  have a1 : (sAsg 3 (eLc [8] (iRg1 (aCons (eC (.int 6)) aNil)) (tgName 8) tcYes (eFnF m_law_symbol (aCons (eVar 2) (aCons (eVar 8) aNil))))) [.v 0 (rl ns), .v 0 (ill ls), .v 0 (.int turn), .un, .un, .un, .un, .un, .un] = .nx [.v 0 (rl ns), .v 0 (ill ls), .v 0 (.int turn), .v 1 (il ex), .un, .un, .un, .un, .un] := by
    have r1 : iRg1 (aCons (eC (.int 6)) aNil) [.v 0 (rl ns), .v 0 (ill ls), .v 0 (.int turn), .un, .un, .un, .un, .un, .un] = .ok ((List.range 6).map fun i : Nat => D.int (0 + (i : Int))) := iRg1_ok (n := 6) rfl (by decide)
    have q := lc_ok (vs := [8]) (tgt := tgName 8) (fe := eFnF m_law_symbol (aCons (eVar 2) (aCons (eVar 8) aNil))) (g := fun i => .int (sym i)) (List.range 6) r1 (by decide) fun i hi =>
      ⟨[.v 0 (rl ns), .v 0 (ill ls), .v 0 (.int turn), .un, .un, .un, .un, .un, .v 0 (.int (0 + (i : Int)))], rfl, fnF_ok (aC_ok (var_ok rfl) (aC_ok (var_ok rfl) rfl)) (hsym i hi) rfl⟩
    have e : D.lst ((List.range 6).map fun i => .int (sym i)) = il ex := by rw [hex]; unfold il; rw [List.map_map]; rfl
    rw [e] at q
    exact asg_ok q
  have a2 : (sFrz 3 (sFrz 1 (sAsg 4 (eFn m_law_woven (a0Cons (eVar 1) (a0Cons (eVar 3) (a0Cons (eFnF m_law_seed (aCons (eVar 0) (aCons (eC (.int 6)) aNil))) aNil))))))) [.v 0 (rl ns), .v 0 (ill ls), .v 0 (.int turn), .v 1 (il ex), .un, .un, .un, .un, .un] = .nx [.v 0 (rl ns), .v 0 (ill ls), .v 0 (.int turn), .v 0 (il ex), .v 1 (il bs), .un, .un, .un, .un] :=
    Eq.trans (frzS_at (n := 1) (d := il ex) rfl) (Eq.trans (frzS_at (n := 0) (d := ill ls) rfl) (asg_ok (ss := [.v 0 (rl ns), .v 0 (ill ls), .v 0 (.int turn), .v 0 (il ex), .un, .un, .un, .un, .un]) ((fn_ok' (a0_ok (var_ok rfl) (a0_ok (var_ok rfl) (a0_ok (fnF_ok (aC_ok (var_ok rfl) (aC_ok c_ok rfl)) e6 rfl) rfl)))).trans eb)))
  have a3 : (sAsg 5 (eFn m_law_digits (a0Cons (eFnF m_law_seed (aCons (eVar 0) (aCons (eC (.int 7)) aNil))) (a0Cons (eC (.int 21)) (a0Cons (eC (.int 55440)) aNil))))) [.v 0 (rl ns), .v 0 (ill ls), .v 0 (.int turn), .v 0 (il ex), .v 1 (il bs), .un, .un, .un, .un] = .nx [.v 0 (rl ns), .v 0 (ill ls), .v 0 (.int turn), .v 0 (il ex), .v 1 (il bs), .v 1 (il row), .un, .un, .un] :=
    asg_ok ((fn_ok' (a0_ok (fnF_ok (aC_ok (var_ok rfl) (aC_ok c_ok rfl)) e7 rfl) (a0_ok c_ok (a0_ok c_ok rfl)))).trans er)
  obtain ⟨kind, hkd⟩ : ∃ kind, kind = turn / 144 % 4 := ⟨_, rfl⟩
  have a4 : (sAsg 6 (own0 (eOp gMod (eCall gToInt (aCons (eOp gDiv (eVar 2) (eC (.int 144))) aNil)) (eC (.int 4))))) [.v 0 (rl ns), .v 0 (ill ls), .v 0 (.int turn), .v 0 (il ex), .v 1 (il bs), .v 1 (il row), .un, .un, .un] = .nx [.v 0 (rl ns), .v 0 (ill ls), .v 0 (.int turn), .v 0 (il ex), .v 1 (il bs), .v 1 (il row), .v 0 (.int kind), .un, .un] := by
    rw [hkd]
    exact asg_ok (own0_ok (mod_ok (toInt_ok (div_ok (var_ok rfl) c_ok (by decide) (by decide))) c_ok (by decide)))
  have hx0 : row[0]? = some (row[0]'(by omega)) := List.getElem?_eq_getElem (by omega)
  generalize row[0]'(by omega) = x0 at *
  have t2 : (eTest (eOp gEq (eVar 6) (eC (.int 2)))) [.v 0 (rl ns), .v 0 (ill ls), .v 0 (.int turn), .v 0 (il ex), .v 1 (il bs), .v 1 (il row), .v 0 (.int kind), .un, .un] = .ok (decide (kind = 2)) := test_ok (eq_ok (var_ok rfl) c_ok)
  have t3 : (eTest (eOp gEq (eVar 6) (eC (.int 3)))) [.v 0 (rl ns), .v 0 (ill ls), .v 0 (.int turn), .v 0 (il ex), .v 1 (il bs), .v 1 (il row), .v 0 (.int kind), .un, .un] = .ok (decide (kind = 3)) := test_ok (eq_ok (var_ok rfl) c_ok)
  unfold m_law_beats c_law_beats
  cases h2 : decide (kind = 2) with
  | true =>
    rw [h2] at t2
    obtain ⟨M, hM, eM⟩ := max_ok (ss := [.v 0 (rl ns), .v 0 (ill ls), .v 0 (.int turn), .v 0 (il ex), .v 1 (il bs), .v 1 (il row), .v 0 (.int kind), .un, .un]) (len_il (i := 4) (n := 1) (xs := bs) rfl)
    have rp := modb x0 hM
    obtain ⟨p, hp⟩ := Int.eq_ofNat_of_zero_le rp.1
    have b1 : (sAsg 7 (own0 (eOp gMod (eCall gToInt (aCons (eIx (eVar 5) (eC (.int 0))) aNil)) (eCall gMax2 (aCons (eC (.int 1)) (aCons (eCall gLen (aCons (eVar 4) aNil)) aNil)))))) [.v 0 (rl ns), .v 0 (ill ls), .v 0 (.int turn), .v 0 (il ex), .v 1 (il bs), .v 1 (il row), .v 0 (.int kind), .un, .un] = .nx [.v 0 (rl ns), .v 0 (ill ls), .v 0 (.int turn), .v 0 (il ex), .v 1 (il bs), .v 1 (il row), .v 0 (.int kind), .v 0 (.int (p : Int)), .un] := by
      rw [← hp]
      exact asg_ok (own0_ok (mod_ok (toInt_ok (ixi1_ok (k := 0) (var_ok rfl) (by decide) c_ok hx0)) eM hM))
    have b2 : eCat (frzE (eSl (eVar 4) pNone (pSome (eVar 7)))) (frzE (eSl (eVar 4) (pSome (eOp gAdd (eVar 7) (eC (.int 1)))) pNone)) [.v 0 (rl ns), .v 0 (ill ls), .v 0 (.int turn), .v 0 (il ex), .v 1 (il bs), .v 1 (il row), .v 0 (.int kind), .v 0 (.int (p : Int)), .un] = .ok (1, il (bs.take p ++ bs.drop (p + 1))) :=
      cat_il (frz_ok (sl_to (var_ok rfl) (by decide) (var_ok rfl))) (frz_ok (sl_from (a := p + 1) (var_ok rfl) (by decide) (add1_ok (var_ok rfl)))) (by decide) (by decide) (by rw [List.length_take, List.length_drop]; omega)
    exact ⟨_, fn_rt rfl rfl ((seq_nx a1).trans ((seq_nx a2).trans ((seq_nx a3).trans ((seq_nx a4).trans (seq_rt ((if_t t2).trans ((seq_nx b1).trans (ret_ok b2)))))))), by rw [List.length_append, List.length_take, List.length_drop]; omega⟩
  | false =>
    rw [h2] at t2
    cases h3 : decide (kind = 3) with
    | true =>
      rw [h3] at t3
      have rn := modb x0 (b := 21) (by decide)
      obtain ⟨n, hn'⟩ := Int.eq_ofNat_of_zero_le rn.1
      have hn21 : n < 21 := by have := rn.2; omega
      obtain ⟨sy, hsy⟩ := choose_fn (xs := List.range n) fun i hi => v_symbol turn (row.getD (1 + i) 0)
      have r1 : iRg1 (aCons (eOp gMod (eCall gToInt (aCons (eIx (eVar 5) (eC (.int 0))) aNil)) (eC (.int 21))) aNil) [.v 0 (rl ns), .v 0 (ill ls), .v 0 (.int turn), .v 0 (il ex), .v 1 (il bs), .v 1 (il row), .v 0 (.int kind), .un, .un] = .ok ((List.range n).map fun i : Nat => D.int (0 + (i : Int))) := by
        have q := mod_ok (ss := [.v 0 (rl ns), .v 0 (ill ls), .v 0 (.int turn), .v 0 (il ex), .v 1 (il bs), .v 1 (il row), .v 0 (.int kind), .un, .un]) (toInt_ok (ixi1_ok (f := eVar 5) (g := eC (.int 0)) (k := 0) (var_ok rfl) (by decide) c_ok hx0)) (c_ok (d := .int 21)) (by decide)
        rw [hn'] at q
        exact iRg1_ok (aOne q) (by omega)
      have q := lc_ok (vs := [8]) (tgt := tgName 8) (fe := eFnF m_law_symbol (aCons (eVar 2) (aCons (eIx (eVar 5) (eOp gAdd (eC (.int 1)) (eVar 8))) aNil))) (g := fun i => .int (sy i)) (List.range n) r1 (by rw [List.length_range]; omega) fun i hi => by
        have hi' := (List.mem_range.mp hi)
        refine ⟨[.v 0 (rl ns), .v 0 (ill ls), .v 0 (.int turn), .v 0 (il ex), .v 1 (il bs), .v 1 (il row), .v 0 (.int kind), .un, .v 0 (.int (0 + (i : Int)))], rfl, ?_⟩
        have hx : row[1 + i]? = some (row.getD (1 + i) 0) := by rw [List.getD_eq_getElem?_getD, List.getElem?_eq_getElem (by omega)]; rfl
        have e1 : eOp gAdd (eC (.int 1)) (eVar 8) [.v 0 (rl ns), .v 0 (ill ls), .v 0 (.int turn), .v 0 (il ex), .v 1 (il bs), .v 1 (il row), .v 0 (.int kind), .un, .v 0 (.int (0 + (i : Int)))] = .ok (0, .int ((1 + i : Nat) : Int)) := by
          have e : (1 : Int) + (0 + (i : Int)) = ((1 + i : Nat) : Int) := by omega
          rw [← e]
          exact add_ok c_ok (var_ok rfl)
        exact fnF_ok (aC_ok (var_ok rfl) (aC_ok (ixi1_ok (var_ok rfl) (by decide) e1 hx) rfl)) (hsy i hi) rfl
      have e : D.lst ((List.range n).map fun i => .int (sy i)) = il ((List.range n).map sy) := by unfold il; rw [List.map_map]; rfl
      rw [e] at q
      exact ⟨_, fn_rt rfl rfl ((seq_nx a1).trans ((seq_nx a2).trans ((seq_nx a3).trans ((seq_nx a4).trans ((seq_nx (if_f t2)).trans (seq_rt ((if_t t3).trans (ret_ok q)))))))), by rw [List.length_map, List.length_range]; omega⟩
    | false =>
      rw [h3] at t3
      exact ⟨bs, fn_rt rfl rfl ((seq_nx a1).trans ((seq_nx a2).trans ((seq_nx a3).trans ((seq_nx a4).trans ((seq_nx (if_f t2)).trans ((seq_nx (if_f t3)).trans (retV_ok rfl))))))), hb40⟩
theorem ne_il {f1 f2 : EB} {ss : En} {n m : Nat} {a b : List Int} (h1 : f1 ss = .ok (n, il a)) (h2 : f2 ss = .ok (m, il b)) : eOp gNe f1 f2 ss = .ok (0, .bl (!decide (a = b))) := op_ok h1 h2 (gNe_il a b)
theorem eq_il {f1 f2 : EB} {ss : En} {n m : Nat} {a b : List Int} (h1 : f1 ss = .ok (n, il a)) (h2 : f2 ss = .ok (m, il b)) : eOp gEq f1 f2 ss = .ok (0, .bl (decide (a = b))) := op_ok h1 h2 (gEq_il a b)
theorem eq_ill {f1 f2 : EB} {ss : En} {n m : Nat} {a b : List (List Int)} (h1 : f1 ss = .ok (n, ill a)) (h2 : f2 ss = .ok (m, ill b)) : eOp gEq f1 f2 ss = .ok (0, .bl (decide (a = b))) := op_ok h1 h2 (gEq_ill a b)
theorem eq_bl {f1 f2 : EB} {ss : En} {n m : Nat} {a b : Bool} (h1 : f1 ss = .ok (n, .bl a)) (h2 : f2 ss = .ok (m, .bl b)) : eOp gEq f1 f2 ss = .ok (0, .bl (a == b)) := op_ok h1 h2 rfl
theorem v_lies (ls : List (List Int)) (bs : List Int) (hn : ls.length ≤ 1000) (hb : bs.length < 1000000) : m_law_lies [ill ls, il bs] = .ok (0, .bl true) := by
  obtain ⟨pr, hpr⟩ : ∃ pr : List Int, pr = ls.map fun r => (pre r bs 0 : Int) := ⟨_, rfl⟩
  have vp := v_prefixes ls bs (by omega)
  rw [← hpr] at vp
  have hpl : pr.length = ls.length := by rw [hpr, List.length_map]
  have a1 : (sFrz 0 (sAsg 2 (eLc [6] (iSeq (eVar 0)) (tgName 6) tcYes (frzE (eList (eVar 6)))))) [.v 0 (ill ls), .v 0 (il bs), .un, .un, .un, .un, .un] = .nx [.v 0 (ill ls), .v 0 (il bs), .v 1 (ill ls), .un, .un, .un, .un] := by
    have q := lc_ok (vs := [6]) (fi := iSeq (eVar 0)) (ss := [.v 0 (ill ls), .v 0 (il bs), .un, .un, .un, .un, .un]) (tgt := tgName 6) (fe := frzE (eList (eVar 6))) (f := il) (g := il) ls (iSeq_ok (var_ok rfl)) (by omega) fun l hl =>
      ⟨[.v 0 (ill ls), .v 0 (il bs), .un, .un, .un, .un, .v 0 (il l)], rfl, frz_ok (list_il (var_ok rfl) (by decide))⟩
    exact Eq.trans (frzS_at (n := 0) (d := ill ls) rfl) (asg_ok (ss := [.v 0 (ill ls), .v 0 (il bs), .un, .un, .un, .un, .un]) q)
  have a2 : (sAsg 3 (eList (eVar 1))) [.v 0 (ill ls), .v 0 (il bs), .v 1 (ill ls), .un, .un, .un, .un] = .nx [.v 0 (ill ls), .v 0 (il bs), .v 1 (ill ls), .v 1 (il bs), .un, .un, .un] := asg_ok (list_il (var_ok rfl) (by decide))
  have a3 : (sFrz 3 (sFrz 2 (sAsg 4 (eFn m_prefixes (a0Cons (eVar 2) (a0Cons (eVar 3) aNil)))))) [.v 0 (ill ls), .v 0 (il bs), .v 1 (ill ls), .v 1 (il bs), .un, .un, .un] = .nx [.v 0 (ill ls), .v 0 (il bs), .v 0 (ill ls), .v 0 (il bs), .v 1 (il pr), .un, .un] :=
    Eq.trans (frzS_at (n := 1) (d := il bs) rfl) (Eq.trans (frzS_at (n := 1) (d := ill ls) rfl) (asg_ok (ss := [.v 0 (ill ls), .v 0 (il bs), .v 0 (ill ls), .v 0 (il bs), .un, .un, .un]) ((fn_ok' (a0_ok (var_ok rfl) (a0_ok (var_ok rfl) rfl))).trans vp)))
  have q4 : frzE (eLc [6] (iSeq (eVar 0)) (tgName 6) tcYes (eFnF m_law_prefix (aCons (eVar 6) (aCons (eVar 1) aNil)))) [.v 0 (ill ls), .v 0 (il bs), .v 0 (ill ls), .v 0 (il bs), .v 1 (il pr), .un, .un] = .ok (0, il pr) := by
    have q := lc_ok (vs := [6]) (fi := iSeq (eVar 0)) (ss := [.v 0 (ill ls), .v 0 (il bs), .v 0 (ill ls), .v 0 (il bs), .v 1 (il pr), .un, .un]) (tgt := tgName 6) (fe := eFnF m_law_prefix (aCons (eVar 6) (aCons (eVar 1) aNil))) (f := il) (g := fun r => .int (pre r bs 0 : Int)) ls (iSeq_ok (var_ok rfl)) (by omega) fun l hl =>
      ⟨[.v 0 (ill ls), .v 0 (il bs), .v 0 (ill ls), .v 0 (il bs), .v 1 (il pr), .un, .v 0 (il l)], rfl, by rw [e_prefix]; exact fnF_ok (aC_ok (var_ok rfl) (aC_ok (var_ok rfl) rfl)) (v_prefix l bs) rfl⟩
    have e : D.lst (ls.map fun r => .int (pre r bs 0 : Int)) = il pr := by rw [hpr]; unfold il; rw [List.map_map]; rfl
    rw [e] at q
    exact frz_ok q
  have t4 : (tyOr (tyNot (eTest (eFnF m_law_ints (aCons (eVar 4) aNil)))) (eTest (eOp gNe (eVar 4) (frzE (eLc [6] (iSeq (eVar 0)) (tgName 6) tcYes (eFnF m_law_prefix (aCons (eVar 6) (aCons (eVar 1) aNil)))))))) [.v 0 (ill ls), .v 0 (il bs), .v 0 (ill ls), .v 0 (il bs), .v 1 (il pr), .un, .un] = .ok false := by
    have t := tor_ok (tnot_ok (test_ok (fnF_ok (m := m_law_ints) (ss := [.v 0 (ill ls), .v 0 (il bs), .v 0 (ill ls), .v 0 (il bs), .v 1 (il pr), .un, .un]) (aOne (f := eVar 4) (var_ok rfl)) (v_ints pr) rfl))) (test_ok (ne_il (f1 := eVar 4) (var_ok rfl) q4))
    have e : ((!true) || (!decide (pr = pr))) = false := by simp
    rw [e] at t
    exact t
  have a4 : (sFrz 0 (sIf (tyOr (tyNot (eTest (eFnF m_law_ints (aCons (eVar 4) aNil)))) (eTest (eOp gNe (eVar 4) (frzE (eLc [6] (iSeq (eVar 0)) (tgName 6) tcYes (eFnF m_law_prefix (aCons (eVar 6) (aCons (eVar 1) aNil))))))))
      (sRet (own0 (eC (.bl false)))) sNext)) [.v 0 (ill ls), .v 0 (il bs), .v 0 (ill ls), .v 0 (il bs), .v 1 (il pr), .un, .un] = .nx [.v 0 (ill ls), .v 0 (il bs), .v 0 (ill ls), .v 0 (il bs), .v 1 (il pr), .un, .un] :=
    Eq.trans (frzS_at (n := 0) (d := ill ls) rfl) (if_f (ss := [.v 0 (ill ls), .v 0 (il bs), .v 0 (ill ls), .v 0 (il bs), .v 1 (il pr), .un, .un]) t4)
  have a5 : (sApp 4 (own0 (eC (.int 7)))) [.v 0 (ill ls), .v 0 (il bs), .v 0 (ill ls), .v 0 (il bs), .v 1 (il pr), .un, .un] = .nx [.v 0 (ill ls), .v 0 (il bs), .v 0 (ill ls), .v 0 (il bs), .v 1 (il (pr ++ [7])), .un, .un] := app_il (own0_ok c_ok) rfl (by omega)
  have a6 : (sAsg 5 (own0 (eFnF m_is_complete (aCons (eVar 2) (aCons (eVar 3) aNil))))) [.v 0 (ill ls), .v 0 (il bs), .v 0 (ill ls), .v 0 (il bs), .v 1 (il (pr ++ [7])), .un, .un] = .nx [.v 0 (ill ls), .v 0 (il bs), .v 0 (ill ls), .v 0 (il bs), .v 1 (il (pr ++ [7])), .v 0 (.bl (comp ls bs)), .un] :=
    asg_ok (own0_ok (fnF_ok (aC_ok (var_ok rfl) (aC_ok (var_ok rfl) rfl)) (v_complete ls bs) rfl))
  have a7 := and_ok0 (isi_ok (ss := [.v 0 (ill ls), .v 0 (il bs), .v 0 (ill ls), .v 0 (il bs), .v 1 (il (pr ++ [7])), .v 0 (.bl (comp ls bs)), .un]) (f := eVar 5) (var_ok rfl) (isi_bl (comp ls bs))) (and_ok0 (eq_bl (f1 := eVar 5) (var_ok rfl) (fnF_ok (m := m_law_whole) (aC_ok (f := eVar 0) (var_ok rfl) (aC_ok (f := eVar 1) (g := aNil) (var_ok rfl) rfl)) (by rw [e_whole]; exact v_complete ls bs) rfl)) (and_ok0 (eq_ill (f1 := eVar 2) (f2 := eVar 0) (var_ok rfl) (var_ok rfl)) (eq_il (f1 := eVar 3) (f2 := eVar 1) (var_ok rfl) (var_ok rfl))))
  have e : (true && ((comp ls bs == comp ls bs) && (decide (ls = ls) && decide (bs = bs)))) = true := by simp
  rw [e] at a7
  unfold m_law_lies c_law_lies
  exact fn_rt rfl rfl ((seq_nx a1).trans ((seq_nx a2).trans ((seq_nx a3).trans ((seq_nx a4).trans ((seq_nx a5).trans ((seq_nx a6).trans (ret_ok (own0_ok a7))))))))
end K13

namespace K13
open PySem L2 Mv
theorem isx_ok {K : PySem.W.Frag} {a : Addr} {ex : Exo} {ws : List Value} {f : EB} {ss : En} {n : Nat} {b : Bool} (hf : f ss = .ok (n, .exo a)) (h1 : ex.fs = none) (h2 : ExcC K ex.C) (h3 : PySem.W.kitAny K (.ref ex.C) ws = some b) : eIsx K a ex ws f ss = .ok (0, .bl b) := by
  unfold eIsx
  rw [if_pos ⟨h1, h2⟩, hf]
  simp only [if_true, h3]
theorem try_nx {K : PySem.W.Frag} {c : Value} {i : Nat} {Fb : SM} {Fs : Addr → Exo → SM} {ss s' : En} (h : Fb ss = .nx s') : sTry K c i Fb Fs ss = .nx s' := by unfold sTry; rw [h]
theorem asg_ex {i : Nat} {f : EB} {ss : En} {e : Exo} (h : f ss = .exc e) : sAsg i f ss = .exc e ss := by unfold sAsg; rw [h]
theorem thinL_len (runs : List (List Int)) : ∀ (rest kept : List Int), (thinL runs rest kept).length ≤ kept.length + rest.length
  | [], kept => by rw [thinL]; omega
  | x :: rest, kept => by
    rw [thinL]
    split
    · have := thinL_len runs rest kept; rw [List.length_cons]; omega
    · have := thinL_len runs rest (kept ++ [x]); rw [List.length_append] at this; rw [List.length_cons]; simp at this; omega
section
variable {K : PySem.W.Frag} {mg : Str → Option Value}
theorem v_inc (T : Txt K mg) (a : Addr) : m_law_is_incomplete T a ⟨T.a_Incomplete, none⟩ [.exo a] = .ok (0, .bl true) := by
  have x : ∀ {ws : List Value} {b : Bool}, PySem.W.kitAny K (.ref T.a_Incomplete) ws = some b → eIsx K a ⟨T.a_Incomplete, none⟩ ws (eVar 0) [.v 0 (.exo a)] = .ok (0, .bl b) := fun h => isx_ok (n := 0) (var_ok rfl) rfl T.ec_Incomplete h
  unfold m_law_is_incomplete c_law_is_incomplete
  exact fn_rt rfl rfl ((seq_nx (if_f (test_ok (x T.ia_Incomplete_0)))).trans ((seq_nx (if_f (test_ok (x T.ia_Incomplete_1)))).trans (ret_ok (own0_ok (and_ok0 (x T.ia_Incomplete_4) (and_ok0 (x T.ia_Incomplete_3) (not_ok (x T.ia_Incomplete_2))))))))
theorem v_told (T : Txt K mg) (ls : List (List Int)) (bs : List Int) (hn : ls.length ≤ 1000) (hl : ∀ l ∈ ls, l.length ≤ 10000000) (hb : bs.length < 1000000) : m_law_told T [ill ls, il bs] = .ok (0, .bl true) := by
  have a0 : (sIf (tyNot (eTest (eFnF m_law_lies (aCons (eVar 0) (aCons (eVar 1) aNil))))) (sRet (own0 (eC (.bl false)))) sNext) [.v 0 (ill ls), .v 0 (il bs), .un, .un, .un, .un, .un, .un] = .nx [.v 0 (ill ls), .v 0 (il bs), .un, .un, .un, .un, .un, .un] :=
    if_f (tnot_ok (test_ok (fnF_ok (aC_ok (var_ok rfl) (aC_ok (g := aNil) (var_ok rfl) rfl)) (v_lies ls bs hn hb) rfl)))
  have a1 : (sFrz 0 (sAsg 2 (eLc [7] (iSeq (eVar 0)) (tgName 7) tcYes (frzE (eList (eVar 7)))))) [.v 0 (ill ls), .v 0 (il bs), .un, .un, .un, .un, .un, .un] = .nx [.v 0 (ill ls), .v 0 (il bs), .v 1 (ill ls), .un, .un, .un, .un, .un] := by
    have q := lc_ok (vs := [7]) (fi := iSeq (eVar 0)) (ss := [.v 0 (ill ls), .v 0 (il bs), .un, .un, .un, .un, .un, .un]) (tgt := tgName 7) (fe := frzE (eList (eVar 7))) (f := il) (g := il) ls (iSeq_ok (var_ok rfl)) (by omega) fun l hl =>
      ⟨[.v 0 (ill ls), .v 0 (il bs), .un, .un, .un, .un, .un, .v 0 (il l)], rfl, frz_ok (list_il (var_ok rfl) (by decide))⟩
    exact Eq.trans (frzS_at (n := 0) (d := ill ls) rfl) (asg_ok (ss := [.v 0 (ill ls), .v 0 (il bs), .un, .un, .un, .un, .un, .un]) q)
  have a2 : (sAsg 3 (eList (eVar 1))) [.v 0 (ill ls), .v 0 (il bs), .v 1 (ill ls), .un, .un, .un, .un, .un] = .nx [.v 0 (ill ls), .v 0 (il bs), .v 1 (ill ls), .v 1 (il bs), .un, .un, .un, .un] := asg_ok (list_il (var_ok rfl) (by decide))
  have a3 : (sAsg 4 (own0 (eFnF m_law_whole (aCons (eVar 0) (aCons (eVar 1) aNil))))) [.v 0 (ill ls), .v 0 (il bs), .v 1 (ill ls), .v 1 (il bs), .un, .un, .un, .un] = .nx [.v 0 (ill ls), .v 0 (il bs), .v 1 (ill ls), .v 1 (il bs), .v 0 (.bl (comp ls bs)), .un, .un, .un] := by
    rw [e_whole]
    exact asg_ok (own0_ok (fnF_ok (aC_ok (var_ok rfl) (aC_ok (g := aNil) (var_ok rfl) rfl)) (v_complete ls bs) rfl))
  have vt := v_thin T ls bs hn hl hb
  have fa : ∀ {f : EB} {r : SO}, (sAsg 6 f) [.v 0 (ill ls), .v 0 (il bs), .v 0 (ill ls), .v 0 (il bs), .v 0 (.bl (comp ls bs)), .un, .un, .un] = r → (sFrz 3 (sFrz 2 (sAsg 6 f))) [.v 0 (ill ls), .v 0 (il bs), .v 1 (ill ls), .v 1 (il bs), .v 0 (.bl (comp ls bs)), .un, .un, .un] = r := fun h =>
    Eq.trans (frzS_at (n := 1) (d := il bs) rfl) (Eq.trans (frzS_at (n := 1) (d := ill ls) rfl) h)
  have ga : (a0Cons (eVar 2) (a0Cons (eVar 3) aNil)) [.v 0 (ill ls), .v 0 (il bs), .v 0 (ill ls), .v 0 (il bs), .v 0 (.bl (comp ls bs)), .un, .un, .un] = .ok [ill ls, il bs] := a0_ok (var_ok rfl) (a0_ok (g := aNil) (var_ok rfl) rfl)
  cases hc : comp ls bs with
  | false =>
    rw [hc] at vt a3 fa ga
    have vt' : m_thin T [ill ls, il bs] = .exc ⟨T.a_Incomplete, none⟩ := vt
    have b1 := fa (asg_ex ((fn_ok' (m := m_thin T) ga).trans vt'))
    have b2 := sTry_exc (K := K) (c := .ref T.a_ForeworthError) (i := 5) (Fs := fun a0 e0 => (sRet (own0 (eAnd (eNot (eVar 4)) (eAnd (eFnF (m_law_is_incomplete T a0 e0) (aCons (eVar 5) aNil)) (eAnd (eOp gEq (eVar 2) (eVar 0)) (eOp gEq (eVar 3) (eVar 1)))))))) (r := .rt 0 (.bl true)) b1 T.em_Incomplete_ForeworthError fun a => by
      have r := and_ok0 (not_ok (ss := [.v 0 (ill ls), .v 0 (il bs), .v 0 (ill ls), .v 0 (il bs), .v 0 (.bl false), .v 0 (.exo a), .un, .un]) (f := eVar 4) (var_ok rfl)) (and_ok0 (fnF_ok (m := m_law_is_incomplete T a ⟨T.a_Incomplete, none⟩) (aOne (f := eVar 5) (var_ok rfl)) (v_inc T a) rfl) (and_ok0 (eq_ill (f1 := eVar 2) (f2 := eVar 0) (var_ok rfl) (var_ok rfl)) (eq_il (f1 := eVar 3) (f2 := eVar 1) (var_ok rfl) (var_ok rfl))))
      have e : ((!false) && (true && (decide (ls = ls) && decide (bs = bs)))) = true := by simp
      rw [e] at r
      have r2 := ret_ok (own0_ok r)
      exact congrArg (unS 5) r2
    unfold m_law_told c_law_told
    exact fn_rt rfl rfl ((seq_nx a0).trans ((seq_nx a1).trans ((seq_nx a2).trans ((seq_nx a3).trans (seq_rt b2)))))
  | true =>
    rw [hc] at vt a3 fa ga
    obtain ⟨r, hr⟩ : ∃ r, r = thinL ls bs [] := ⟨_, rfl⟩
    have hrl : r.length < 10000000 := by have := thinL_len ls bs []; rw [← hr] at this; simp at this; omega
    have vt' : m_thin T [ill ls, il bs] = .ok (1, il r) := by rw [hr]; exact vt
    have b1 := fa (asg_ok ((fn_ok' (m := m_thin T) ga).trans vt'))
    have b2 := try_nx (K := K) (c := .ref T.a_ForeworthError) (i := 5) (Fs := fun a0 e0 => (sRet (own0 (eAnd (eNot (eVar 4)) (eAnd (eFnF (m_law_is_incomplete T a0 e0) (aCons (eVar 5) aNil)) (eAnd (eOp gEq (eVar 2) (eVar 0)) (eOp gEq (eVar 3) (eVar 1)))))))) b1
    have th : frzE (eFn m_law_thinned (a0Cons (eVar 0) (a0Cons (eVar 1) aNil))) [.v 0 (ill ls), .v 0 (il bs), .v 0 (ill ls), .v 0 (il bs), .v 0 (.bl true), .un, .v 1 (il r), .un] = .ok (0, il r) := by
      rw [hr]
      exact frz_ok ((fn_ok' (a0_ok (var_ok rfl) (a0_ok (g := aNil) (var_ok rfl) rfl))).trans (v_thinned ls bs hb))
    have t := tor_ok (tnot_ok (test_ok (ss := [.v 0 (ill ls), .v 0 (il bs), .v 0 (ill ls), .v 0 (il bs), .v 0 (.bl true), .un, .v 1 (il r), .un]) (f := eVar 4) (var_ok rfl))) (tor_ok (tnot_ok (test_ok (fnF_ok (m := m_law_ints) (aOne (f := eVar 6) (var_ok rfl)) (v_ints r) rfl))) (test_ok (ne_il (f1 := eVar 6) (var_ok rfl) th)))
    have e : ((!true) || ((!true) || (!decide (r = r)))) = false := by simp
    rw [e] at t
    have a5 : (sFrz 1 (sFrz 0 (sIf (tyOr (tyNot (eTest (eVar 4))) (tyOr (tyNot (eTest (eFnF m_law_ints (aCons (eVar 6) aNil)))) (eTest (eOp gNe (eVar 6) (frzE (eFn m_law_thinned (a0Cons (eVar 0) (a0Cons (eVar 1) aNil)))))))) (sRet (own0 (eC (.bl false)))) sNext))) [.v 0 (ill ls), .v 0 (il bs), .v 0 (ill ls), .v 0 (il bs), .v 0 (.bl true), .un, .v 1 (il r), .un] = .nx [.v 0 (ill ls), .v 0 (il bs), .v 0 (ill ls), .v 0 (il bs), .v 0 (.bl true), .un, .v 1 (il r), .un] :=
      Eq.trans (frzS_at (n := 0) (d := il bs) rfl) (Eq.trans (frzS_at (n := 0) (d := ill ls) rfl) (if_f (ss := [.v 0 (ill ls), .v 0 (il bs), .v 0 (ill ls), .v 0 (il bs), .v 0 (.bl true), .un, .v 1 (il r), .un]) t))
    have a6 : (sApp 6 (own0 (eC (.int 7)))) [.v 0 (ill ls), .v 0 (il bs), .v 0 (ill ls), .v 0 (il bs), .v 0 (.bl true), .un, .v 1 (il r), .un] = .nx [.v 0 (ill ls), .v 0 (il bs), .v 0 (ill ls), .v 0 (il bs), .v 0 (.bl true), .un, .v 1 (il (r ++ [7])), .un] := app_il (own0_ok c_ok) rfl hrl
    have a7 := and_ok0 (eq_ill (ss := [.v 0 (ill ls), .v 0 (il bs), .v 0 (ill ls), .v 0 (il bs), .v 0 (.bl true), .un, .v 1 (il (r ++ [7])), .un]) (f1 := eVar 2) (f2 := eVar 0) (var_ok rfl) (var_ok rfl)) (eq_il (f1 := eVar 3) (f2 := eVar 1) (var_ok rfl) (var_ok rfl))
    have e7 : (decide (ls = ls) && decide (bs = bs)) = true := by simp
    rw [e7] at a7
    unfold m_law_told c_law_told
    exact fn_rt rfl rfl ((seq_nx a0).trans ((seq_nx a1).trans ((seq_nx a2).trans ((seq_nx a3).trans ((seq_nx b2).trans ((seq_nx a5).trans ((seq_nx a6).trans (ret_ok (own0_ok a7)))))))))
end
end K13

namespace K13
open PySem L2 Mv
section
variable {K : PySem.W.Frag} {mg : Str → Option Value}
theorem law_lies_part (ns : List Int) (turn : Int) (ls : List (List Int)) (bs row less more : List Int) (p : Nat) (hn : ls.length ≤ 5) (h8 : ∀ l ∈ ls, l.length ≤ 8) (hb : bs.length ≤ 40) (hr : row.length = 5) :
    ∃ o8 o9, (sIf (eTest (eOp gEq (eOp gMod (eCall gToInt (aCons (eIx (eVar 4) (eC (.int 2))) aNil)) (eC (.int 8))) (eC (.int 5))))
  (sSeq (sAsg 8 (own0 (eOp gAdd (eC (.int 1)) (eOp gMod (eCall gToInt (aCons (eIx (eVar 4) (eC (.int 3))) aNil)) (eC (.int 16))))))
  (sSeq (sAsg 9 (own0 (eOp gAdd (eC (.int 1)) (eOp gMod (eCall gToInt (aCons (eIx (eVar 4) (eC (.int 4))) aNil)) (eC (.int 16))))))
  (sFrz 2 (sIf (tyNot (eTest (eFnF m_law_lies (aCons (frzE (eLc [10] (iSeq (eVar 2)) (tgName 10) tcYes (frzE (eRep (eVar 10) (eVar 8))))) (aCons (frzE (eRep (eVar 3) (eVar 9))) aNil)))))
  (sRet (own0 (eC (.bl false))))
  sNext))))
  sNext) [.v 0 (rl ns), .v 0 (.int turn), .v 0 (ill ls), .v 1 (il bs), .v 1 (il row), .v 0 (.int (p : Int)), .v 1 (il less), .v 1 (il more), .un, .un, .un] = .nx [.v 0 (rl ns), .v 0 (.int turn), .v 0 (ill ls), .v 1 (il bs), .v 1 (il row), .v 0 (.int (p : Int)), .v 1 (il less), .v 1 (il more), o8, o9, .un] := by
  have gx : ∀ i, i < 5 → ∃ x, row[i]? = some x := fun i hi => ⟨row[i]'(by omega), List.getElem?_eq_getElem (by omega)⟩
  obtain ⟨x2, h2⟩ := gx 2 (by decide)
  obtain ⟨x3, h3⟩ := gx 3 (by decide)
  obtain ⟨x4, h4⟩ := gx 4 (by decide)
  have t := test_ok (eq_ok (mod_ok (ss := [.v 0 (rl ns), .v 0 (.int turn), .v 0 (ill ls), .v 1 (il bs), .v 1 (il row), .v 0 (.int (p : Int)), .v 1 (il less), .v 1 (il more), .un, .un, .un]) (toInt_ok (ixi1_ok (f := eVar 4) (g := eC (.int 2)) (k := 2) (var_ok rfl) (by decide) c_ok h2)) (c_ok (d := .int 8)) (by decide)) (c_ok (d := .int 5)))
  cases hc : decide (x2 % 8 = 5) with
  | false => rw [hc] at t; exact ⟨.un, .un, if_f t⟩
  | true =>
    rw [hc] at t
    have r3 := modb x3 (b := 16) (by decide)
    have r4 := modb x4 (b := 16) (by decide)
    obtain ⟨m, hm⟩ := Int.eq_ofNat_of_zero_le (a := 1 + x3 % 16) (by omega)
    obtain ⟨u, hu⟩ := Int.eq_ofNat_of_zero_le (a := 1 + x4 % 16) (by omega)
    have hm16 : m ≤ 16 := by omega
    have hu16 : u ≤ 16 := by omega
    have b1 : (sAsg 8 (own0 (eOp gAdd (eC (.int 1)) (eOp gMod (eCall gToInt (aCons (eIx (eVar 4) (eC (.int 3))) aNil)) (eC (.int 16)))))) [.v 0 (rl ns), .v 0 (.int turn), .v 0 (ill ls), .v 1 (il bs), .v 1 (il row), .v 0 (.int (p : Int)), .v 1 (il less), .v 1 (il more), .un, .un, .un] = .nx [.v 0 (rl ns), .v 0 (.int turn), .v 0 (ill ls), .v 1 (il bs), .v 1 (il row), .v 0 (.int (p : Int)), .v 1 (il less), .v 1 (il more), .v 0 (.int (m : Int)), .un, .un] := by
      rw [← hm]
      exact asg_ok (own0_ok (add_ok c_ok (mod_ok (toInt_ok (ixi1_ok (k := 3) (var_ok rfl) (by decide) c_ok h3)) c_ok (by decide))))
    have b2 : (sAsg 9 (own0 (eOp gAdd (eC (.int 1)) (eOp gMod (eCall gToInt (aCons (eIx (eVar 4) (eC (.int 4))) aNil)) (eC (.int 16)))))) [.v 0 (rl ns), .v 0 (.int turn), .v 0 (ill ls), .v 1 (il bs), .v 1 (il row), .v 0 (.int (p : Int)), .v 1 (il less), .v 1 (il more), .v 0 (.int (m : Int)), .un, .un] = .nx [.v 0 (rl ns), .v 0 (.int turn), .v 0 (ill ls), .v 1 (il bs), .v 1 (il row), .v 0 (.int (p : Int)), .v 1 (il less), .v 1 (il more), .v 0 (.int (m : Int)), .v 0 (.int (u : Int)), .un] := by
      rw [← hu]
      exact asg_ok (own0_ok (add_ok c_ok (mod_ok (toInt_ok (ixi1_ok (k := 4) (var_ok rfl) (by decide) c_ok h4)) c_ok (by decide))))
    have q1 : frzE (eLc [10] (iSeq (eVar 2)) (tgName 10) tcYes (frzE (eRep (eVar 10) (eVar 8)))) [.v 0 (rl ns), .v 0 (.int turn), .v 0 (ill ls), .v 1 (il bs), .v 1 (il row), .v 0 (.int (p : Int)), .v 1 (il less), .v 1 (il more), .v 0 (.int (m : Int)), .v 0 (.int (u : Int)), .un] = .ok (0, ill (ls.map fun l => (List.replicate m l).flatten)) := by
      have q := lc_ok (vs := [10]) (fi := iSeq (eVar 2)) (ss := [.v 0 (rl ns), .v 0 (.int turn), .v 0 (ill ls), .v 1 (il bs), .v 1 (il row), .v 0 (.int (p : Int)), .v 1 (il less), .v 1 (il more), .v 0 (.int (m : Int)), .v 0 (.int (u : Int)), .un]) (tgt := tgName 10) (fe := frzE (eRep (eVar 10) (eVar 8))) (f := il) (g := fun l => il (List.replicate m l).flatten) ls (iSeq_ok (var_ok rfl)) (by omega) fun l hl => by
        have h8' := h8 l hl
        have hlm : l.length * m ≤ 8 * 16 := Nat.mul_le_mul h8' hm16
        exact ⟨[.v 0 (rl ns), .v 0 (.int turn), .v 0 (ill ls), .v 1 (il bs), .v 1 (il row), .v 0 (.int (p : Int)), .v 1 (il less), .v 1 (il more), .v 0 (.int (m : Int)), .v 0 (.int (u : Int)), .v 0 (il l)], rfl, frz_ok (rep_il (k := m) (var_ok rfl) (by decide) (var_ok rfl) (by omega) (by omega))⟩
      have e : D.lst (ls.map fun l => il (List.replicate m l).flatten) = ill (ls.map fun l => (List.replicate m l).flatten) := by unfold ill; rw [List.map_map]; rfl
      rw [e] at q
      exact frz_ok q
    have hbu : bs.length * u ≤ 40 * 16 := Nat.mul_le_mul hb hu16
    have q2 : frzE (eRep (eVar 3) (eVar 9)) [.v 0 (rl ns), .v 0 (.int turn), .v 0 (ill ls), .v 1 (il bs), .v 1 (il row), .v 0 (.int (p : Int)), .v 1 (il less), .v 1 (il more), .v 0 (.int (m : Int)), .v 0 (.int (u : Int)), .un] = .ok (0, il (List.replicate u bs).flatten) :=
      frz_ok (rep_il (k := u) (var_ok rfl) (by decide) (var_ok rfl) (by omega) (by omega))
    have hfl : (List.replicate u bs).flatten.length = u * bs.length := by rw [List.length_flatten, List.map_replicate, List.sum_replicate_nat]
    have tt := tnot_ok (test_ok (fnF_ok (m := m_law_lies) (aC_ok q1 (aC_ok (g := aNil) q2 rfl)) (v_lies (ls.map fun l => (List.replicate m l).flatten) (List.replicate u bs).flatten (by rw [List.length_map]; omega) (by rw [hfl, Nat.mul_comm]; omega)) rfl))
    exact ⟨_, _, (if_t t).trans ((seq_nx b1).trans ((seq_nx b2).trans (Eq.trans (frzS_at (n := 0) (d := ill ls) rfl) (if_f (ss := [.v 0 (rl ns), .v 0 (.int turn), .v 0 (ill ls), .v 1 (il bs), .v 1 (il row), .v 0 (.int (p : Int)), .v 1 (il less), .v 1 (il more), .v 0 (.int (m : Int)), .v 0 (.int (u : Int)), .un]) tt))))⟩
theorem plain_rl (T : Txt K mg) (ns : List Int) : m_law T [rl ns] = .ok (0, .bl true) := by
  obtain ⟨c0, _, e0⟩ := v_seed ns 0 (by decide) (by decide)
  obtain ⟨row0, er0, hr0, _⟩ := v_digits c0 55440 1 (by decide) (by decide) (by decide)
  have hx0 : row0[0]? = some (row0[0]'(by omega)) := List.getElem?_eq_getElem (by omega)
  generalize row0[0]'(by omega) = turn at *
  obtain ⟨ls, el, hl5, hl8⟩ := v_lists ns turn
  obtain ⟨bs, eb, hb⟩ := v_beats ns ls turn (by omega)
  obtain ⟨c8, _, e8⟩ := v_seed ns 8 (by decide) (by decide)
  obtain ⟨row, er, hr, _⟩ := v_digits c8 55440 5 (by decide) (by decide) (by decide)
  have gx : ∀ i, i < 5 → ∃ x, row[i]? = some x := fun i hi => ⟨row[i]'(by omega), List.getElem?_eq_getElem (by omega)⟩
  obtain ⟨y0, h0⟩ := gx 0 (by decide)
  obtain ⟨y1, h1⟩ := gx 1 (by decide)
  obtain ⟨sy, esy⟩ := v_symbol turn y1
  have a1 : (sAsg 1 (own0 (eIx (frzE (eFn m_law_digits (a0Cons (eFnF m_law_seed (aCons (eVar 0) (aCons (eC (.int 0)) aNil))) (a0Cons (eC (.int 1)) (a0Cons (eC (.int 55440)) aNil))))) (eC (.int 0))))) [.v 0 (rl ns), .un, .un, .un, .un, .un, .un, .un, .un, .un, .un] = .nx [.v 0 (rl ns), .v 0 (.int turn), .un, .un, .un, .un, .un, .un, .un, .un, .un] :=
    asg_ok (own0_ok (ixi_ok (k := 0) (frz_ok ((fn_ok' (a0_ok (fnF_ok (aC_ok (var_ok rfl) (aC_ok (g := aNil) c_ok rfl)) e0 rfl) (a0_ok c_ok (a0_ok (g := aNil) c_ok rfl)))).trans er0)) c_ok hx0))
  have a2 : (sFrz 0 (sAsg 2 (eFn m_law_lists (a0Cons (eVar 0) (a0Cons (eVar 1) aNil))))) [.v 0 (rl ns), .v 0 (.int turn), .un, .un, .un, .un, .un, .un, .un, .un, .un] = .nx [.v 0 (rl ns), .v 0 (.int turn), .v 1 (ill ls), .un, .un, .un, .un, .un, .un, .un, .un] :=
    Eq.trans (frzS_at (n := 0) (d := rl ns) rfl) (asg_ok (ss := [.v 0 (rl ns), .v 0 (.int turn), .un, .un, .un, .un, .un, .un, .un, .un, .un]) ((fn_ok' (a0_ok (var_ok rfl) (a0_ok (g := aNil) (var_ok rfl) rfl))).trans el))
  have a3 : (sFrz 2 (sFrz 0 (sAsg 3 (eFn m_law_beats (a0Cons (eVar 0) (a0Cons (eVar 2) (a0Cons (eVar 1) aNil))))))) [.v 0 (rl ns), .v 0 (.int turn), .v 1 (ill ls), .un, .un, .un, .un, .un, .un, .un, .un] = .nx [.v 0 (rl ns), .v 0 (.int turn), .v 0 (ill ls), .v 1 (il bs), .un, .un, .un, .un, .un, .un, .un] :=
    Eq.trans (frzS_at (n := 1) (d := ill ls) rfl) (Eq.trans (frzS_at (n := 0) (d := rl ns) rfl) (asg_ok (ss := [.v 0 (rl ns), .v 0 (.int turn), .v 0 (ill ls), .un, .un, .un, .un, .un, .un, .un, .un]) ((fn_ok' (a0_ok (var_ok rfl) (a0_ok (var_ok rfl) (a0_ok (g := aNil) (var_ok rfl) rfl)))).trans eb)))
  have a4 : (sAsg 4 (eFn m_law_digits (a0Cons (eFnF m_law_seed (aCons (eVar 0) (aCons (eC (.int 8)) aNil))) (a0Cons (eC (.int 5)) (a0Cons (eC (.int 55440)) aNil))))) [.v 0 (rl ns), .v 0 (.int turn), .v 0 (ill ls), .v 1 (il bs), .un, .un, .un, .un, .un, .un, .un] = .nx [.v 0 (rl ns), .v 0 (.int turn), .v 0 (ill ls), .v 1 (il bs), .v 1 (il row), .un, .un, .un, .un, .un, .un] :=
    asg_ok ((fn_ok' (a0_ok (fnF_ok (aC_ok (var_ok rfl) (aC_ok (g := aNil) c_ok rfl)) e8 rfl) (a0_ok c_ok (a0_ok (g := aNil) c_ok rfl)))).trans er)
  obtain ⟨M, hM, eM⟩ := max_ok (ss := [.v 0 (rl ns), .v 0 (.int turn), .v 0 (ill ls), .v 1 (il bs), .v 1 (il row), .un, .un, .un, .un, .un, .un]) (len_il (i := 3) (n := 1) (xs := bs) rfl)
  have rp := modb y0 hM
  obtain ⟨p, hp⟩ := Int.eq_ofNat_of_zero_le rp.1
  have a5 : (sAsg 5 (own0 (eOp gMod (eCall gToInt (aCons (eIx (eVar 4) (eC (.int 0))) aNil)) (eCall gMax2 (aCons (eC (.int 1)) (aCons (eCall gLen (aCons (eVar 3) aNil)) aNil)))))) [.v 0 (rl ns), .v 0 (.int turn), .v 0 (ill ls), .v 1 (il bs), .v 1 (il row), .un, .un, .un, .un, .un, .un] = .nx [.v 0 (rl ns), .v 0 (.int turn), .v 0 (ill ls), .v 1 (il bs), .v 1 (il row), .v 0 (.int (p : Int)), .un, .un, .un, .un, .un] := by
    rw [← hp]
    exact asg_ok (own0_ok (mod_ok (toInt_ok (ixi1_ok (k := 0) (var_ok rfl) (by decide) c_ok h0)) eM hM))
  obtain ⟨less, hless⟩ : ∃ less, less = bs.take p ++ bs.drop (p + 1) := ⟨_, rfl⟩
  obtain ⟨more, hmore⟩ : ∃ more, more = (bs.take p ++ [sy]) ++ bs.drop p := ⟨_, rfl⟩
  have hll : less.length ≤ 40 := by rw [hless, List.length_append, List.length_take, List.length_drop]; omega
  have hlm : more.length ≤ 41 := by rw [hmore, List.length_append, List.length_append, List.length_take, List.length_drop]; simp; omega
  have a6 : (sAsg 6 (eCat (frzE (eSl (eVar 3) pNone (pSome (eVar 5)))) (frzE (eSl (eVar 3) (pSome (eOp gAdd (eVar 5) (eC (.int 1)))) pNone)))) [.v 0 (rl ns), .v 0 (.int turn), .v 0 (ill ls), .v 1 (il bs), .v 1 (il row), .v 0 (.int (p : Int)), .un, .un, .un, .un, .un] = .nx [.v 0 (rl ns), .v 0 (.int turn), .v 0 (ill ls), .v 1 (il bs), .v 1 (il row), .v 0 (.int (p : Int)), .v 1 (il less), .un, .un, .un, .un] := by
    rw [hless]
    exact asg_ok (cat_il (frz_ok (sl_to (var_ok rfl) (by decide) (var_ok rfl))) (frz_ok (sl_from (a := p + 1) (var_ok rfl) (by decide) (add1_ok (var_ok rfl)))) (by decide) (by decide) (by rw [List.length_take, List.length_drop]; omega))
  have a7 : (sAsg 7 (eCat (frzE (eCat (frzE (eSl (eVar 3) pNone (pSome (eVar 5)))) (frzE (eLst (a0Cons (eFnF m_law_symbol (aCons (eVar 1) (aCons (eIx (eVar 4) (eC (.int 1))) aNil))) aNil))))) (frzE (eSl (eVar 3) (pSome (eVar 5)) pNone)))) [.v 0 (rl ns), .v 0 (.int turn), .v 0 (ill ls), .v 1 (il bs), .v 1 (il row), .v 0 (.int (p : Int)), .v 1 (il less), .un, .un, .un, .un] = .nx [.v 0 (rl ns), .v 0 (.int turn), .v 0 (ill ls), .v 1 (il bs), .v 1 (il row), .v 0 (.int (p : Int)), .v 1 (il less), .v 1 (il more), .un, .un, .un] := by
    have l1 : eLst (a0Cons (eFnF m_law_symbol (aCons (eVar 1) (aCons (eIx (eVar 4) (eC (.int 1))) aNil))) aNil) [.v 0 (rl ns), .v 0 (.int turn), .v 0 (ill ls), .v 1 (il bs), .v 1 (il row), .v 0 (.int (p : Int)), .v 1 (il less), .un, .un, .un, .un] = .ok (1, il [sy]) := by
      have q := a0_ok (g := aNil) (ss := [.v 0 (rl ns), .v 0 (.int turn), .v 0 (ill ls), .v 1 (il bs), .v 1 (il row), .v 0 (.int (p : Int)), .v 1 (il less), .un, .un, .un, .un]) (fnF_ok (m := m_law_symbol) (aC_ok (f := eVar 1) (var_ok rfl) (aC_ok (g := aNil) (ixi1_ok (f := eVar 4) (g := eC (.int 1)) (k := 1) (var_ok rfl) (by decide) c_ok h1) rfl)) esy rfl) rfl
      unfold eLst
      rw [q]
      rfl
    rw [hmore]
    exact asg_ok (cat_il (xs := bs.take p ++ [sy]) (frz_ok (cat_il (frz_ok (sl_to (var_ok rfl) (by decide) (var_ok rfl))) (frz_ok l1) (by decide) (by decide) (by rw [List.length_take]; simp; omega))) (frz_ok (sl_from (a := p) (var_ok rfl) (by decide) (var_ok rfl))) (by decide) (by decide) (by rw [List.length_append, List.length_take, List.length_drop]; simp; omega))
  obtain ⟨o8, o9, a8⟩ := law_lies_part ns turn ls bs row less more p hl5 hl8 hb hr
  have told : ∀ (i : Nat) (n : Nat) (xs : List Int), ([.v 0 (rl ns), .v 0 (.int turn), .v 0 (ill ls), .v 1 (il bs), .v 1 (il row), .v 0 (.int (p : Int)), .v 1 (il less), .v 1 (il more), o8, o9, .un] : En)[i]? = some (.v n (il xs)) → xs.length < 1000000 → eFnF (m_law_told T) (aCons (eVar 2) (aCons (eVar i) aNil)) [.v 0 (rl ns), .v 0 (.int turn), .v 0 (ill ls), .v 1 (il bs), .v 1 (il row), .v 0 (.int (p : Int)), .v 1 (il less), .v 1 (il more), o8, o9, .un] = .ok (0, .bl true) := fun i n xs hi hx =>
    fnF_ok (aC_ok (var_ok rfl) (aC_ok (g := aNil) (var_ok hi) rfl)) (v_told T ls xs (by omega) (fun l hl => Nat.le_trans (hl8 l hl) (by decide)) hx) rfl
  have t9 := tor_ok (tnot_ok (test_ok (told 3 1 bs rfl (by omega)))) (tnot_ok (test_ok (told 6 1 less rfl (by omega))))
  have a10 := and_ok0 (told 7 1 more rfl (by omega)) (told 3 1 bs rfl (by omega))
  unfold m_law c_law
  exact fn_rt rfl rfl ((seq_nx a1).trans ((seq_nx a2).trans ((seq_nx a3).trans ((seq_nx a4).trans ((seq_nx a5).trans ((seq_nx a6).trans ((seq_nx a7).trans ((seq_nx a8).trans ((seq_nx (if_f t9)).trans (ret_ok (own0_ok a10)))))))))))
theorem plain (T : Txt K mg) : ∀ ns : List Int, ns.length ≤ 63 → (∀ z ∈ ns, Builtin.Int.intBits z ≤ 1048576) → m_law T [.rdl (ns.map D.int)] = .ok (0, .bl true) := fun ns _ _ => plain_rl T ns
end
end K13

namespace K13
open PySem L2 Mv
section
variable {P : Program} {w : World} {K : PySem.W.Frag} {h : Heap} {mg : Str → Option Value} {fa : Addr}
theorem all_mk (X : K.In h) (G : h.Ns mainGlobals mg) (hfa : mg "law" = some (.ref fa))
    {f_prefix_length : Addr} {od_prefix_length an_prefix_length : Option Addr} {sl_prefix_length : Array (Option Value)} {oc_prefix_length kV_prefix_length dc_prefix_length pm_prefix_length cd_prefix_length ct_prefix_length : Value}
    {f_prefixes : Addr} {od_prefixes an_prefixes : Option Addr} {sl_prefixes : Array (Option Value)} {oc_prefixes kV_prefixes dc_prefixes pm_prefixes cd_prefixes ct_prefixes : Value}
    {f_is_complete : Addr} {od_is_complete an_is_complete : Option Addr} {sl_is_complete : Array (Option Value)} {oc_is_complete kV_is_complete dc_is_complete pm_is_complete cd_is_complete ct_is_complete : Value}
    {f_latest_places : Addr} {od_latest_places an_latest_places : Option Addr} {sl_latest_places : Array (Option Value)} {oc_latest_places kV_latest_places dc_latest_places pm_latest_places cd_latest_places ct_latest_places : Value}
    {f_is_needed : Addr} {od_is_needed an_is_needed : Option Addr} {sl_is_needed : Array (Option Value)} {oc_is_needed kV_is_needed dc_is_needed pm_is_needed cd_is_needed ct_is_needed : Value}
    {f_thin : Addr} {od_thin an_thin : Option Addr} {sl_thin : Array (Option Value)} {oc_thin kV_thin dc_thin pm_thin cd_thin ct_thin : Value}
    {f_law_cell : Addr} {od_law_cell an_law_cell : Option Addr} {sl_law_cell : Array (Option Value)} {oc_law_cell kV_law_cell dc_law_cell pm_law_cell cd_law_cell ct_law_cell : Value}
    {f_law_digits : Addr} {od_law_digits an_law_digits : Option Addr} {sl_law_digits : Array (Option Value)} {oc_law_digits kV_law_digits dc_law_digits pm_law_digits cd_law_digits ct_law_digits : Value}
    {f_law_seed : Addr} {od_law_seed an_law_seed : Option Addr} {sl_law_seed : Array (Option Value)} {oc_law_seed kV_law_seed dc_law_seed pm_law_seed cd_law_seed ct_law_seed : Value}
    {f_law_prefix : Addr} {od_law_prefix an_law_prefix : Option Addr} {sl_law_prefix : Array (Option Value)} {oc_law_prefix kV_law_prefix dc_law_prefix pm_law_prefix cd_law_prefix ct_law_prefix : Value}
    {f_law_is_int : Addr} {od_law_is_int an_law_is_int : Option Addr} {sl_law_is_int : Array (Option Value)} {oc_law_is_int kV_law_is_int dc_law_is_int pm_law_is_int cd_law_is_int ct_law_is_int : Value}
    {f_law_ints : Addr} {od_law_ints an_law_ints : Option Addr} {sl_law_ints : Array (Option Value)} {oc_law_ints kV_law_ints dc_law_ints pm_law_ints cd_law_ints ct_law_ints : Value}
    {f_law_whole : Addr} {od_law_whole an_law_whole : Option Addr} {sl_law_whole : Array (Option Value)} {oc_law_whole kV_law_whole dc_law_whole pm_law_whole cd_law_whole ct_law_whole : Value}
    {f_law_symbol : Addr} {od_law_symbol an_law_symbol : Option Addr} {sl_law_symbol : Array (Option Value)} {oc_law_symbol kV_law_symbol dc_law_symbol pm_law_symbol cd_law_symbol ct_law_symbol : Value}
    {f_law_lists : Addr} {od_law_lists an_law_lists : Option Addr} {sl_law_lists : Array (Option Value)} {oc_law_lists kV_law_lists dc_law_lists pm_law_lists cd_law_lists ct_law_lists : Value}
    {f_law_woven : Addr} {od_law_woven an_law_woven : Option Addr} {sl_law_woven : Array (Option Value)} {oc_law_woven kV_law_woven dc_law_woven pm_law_woven cd_law_woven ct_law_woven : Value}
    {f_law_beats : Addr} {od_law_beats an_law_beats : Option Addr} {sl_law_beats : Array (Option Value)} {oc_law_beats kV_law_beats dc_law_beats pm_law_beats cd_law_beats ct_law_beats : Value}
    {f_law_thinned : Addr} {od_law_thinned an_law_thinned : Option Addr} {sl_law_thinned : Array (Option Value)} {oc_law_thinned kV_law_thinned dc_law_thinned pm_law_thinned cd_law_thinned ct_law_thinned : Value}
    {f_law_is_incomplete : Addr} {od_law_is_incomplete an_law_is_incomplete : Option Addr} {sl_law_is_incomplete : Array (Option Value)} {oc_law_is_incomplete kV_law_is_incomplete dc_law_is_incomplete pm_law_is_incomplete cd_law_is_incomplete ct_law_is_incomplete : Value}
    {f_law_lies : Addr} {od_law_lies an_law_lies : Option Addr} {sl_law_lies : Array (Option Value)} {oc_law_lies kV_law_lies dc_law_lies pm_law_lies cd_law_lies ct_law_lies : Value}
    {f_law_told : Addr} {od_law_told an_law_told : Option Addr} {sl_law_told : Array (Option Value)} {oc_law_told kV_law_told dc_law_told pm_law_told cd_law_told ct_law_told : Value}
    {f_law : Addr} {od_law an_law : Option Addr} {sl_law : Array (Option Value)} {oc_law kV_law dc_law pm_law cd_law ct_law : Value}
    {C_BadChange : Addr}
    {C_BadDoors : Addr}
    {C_BadNode : Addr}
    {C_BadOrder : Addr}
    {C_BadRing : Addr}
    {C_BadRun : Addr}
    {C_BadStart : Addr}
    {C_BadStay : Addr}
    {C_BadWord : Addr}
    {C_BareLoop : Addr}
    {C_DeskError : Addr}
    {C_ForeworthError : Addr}
    {C_Incomplete : Addr}
    {C_MixedGraphs : Addr}
    {C_NoEnd : Addr}
    {C_NoWild : Addr}
    {C_NotOver : Addr}
    {C_NotStanding : Addr}
    {C_TextError : Addr}
    {C_TooLarge : Addr}
    {C_Unreachable : Addr}
    {C_WildProgram : Addr}
    (a_prefix_length : PySem.W.nsIn K mainGlobals "prefix_length" = some (some (.ref f_prefix_length)))
    (l_prefix_length : K.lookup f_prefix_length = some ⟨oc_prefix_length, od_prefix_length, .func (PySem.W.fnOf "prefix_length" "prefix_length" (defArgs s_prefix_length) (defBody s_prefix_length) (defScope s_prefix_length) .none kV_prefix_length dc_prefix_length pm_prefix_length an_prefix_length cd_prefix_length ct_prefix_length), sl_prefix_length⟩)
    (c_prefix_length : PySem.W.codeIn K cd_prefix_length "prefix_length" = true)
    (k_prefix_length : PySem.W.keepIn K (.ref f_prefix_length) = true)
    (a_prefixes : PySem.W.nsIn K mainGlobals "prefixes" = some (some (.ref f_prefixes)))
    (l_prefixes : K.lookup f_prefixes = some ⟨oc_prefixes, od_prefixes, .func (PySem.W.fnOf "prefixes" "prefixes" (defArgs s_prefixes) (defBody s_prefixes) (defScope s_prefixes) .none kV_prefixes dc_prefixes pm_prefixes an_prefixes cd_prefixes ct_prefixes), sl_prefixes⟩)
    (c_prefixes : PySem.W.codeIn K cd_prefixes "prefixes" = true)
    (k_prefixes : PySem.W.keepIn K (.ref f_prefixes) = true)
    (a_is_complete : PySem.W.nsIn K mainGlobals "is_complete" = some (some (.ref f_is_complete)))
    (l_is_complete : K.lookup f_is_complete = some ⟨oc_is_complete, od_is_complete, .func (PySem.W.fnOf "is_complete" "is_complete" (defArgs s_is_complete) (defBody s_is_complete) (defScope s_is_complete) .none kV_is_complete dc_is_complete pm_is_complete an_is_complete cd_is_complete ct_is_complete), sl_is_complete⟩)
    (c_is_complete : PySem.W.codeIn K cd_is_complete "is_complete" = true)
    (k_is_complete : PySem.W.keepIn K (.ref f_is_complete) = true)
    (a_latest_places : PySem.W.nsIn K mainGlobals "latest_places" = some (some (.ref f_latest_places)))
    (l_latest_places : K.lookup f_latest_places = some ⟨oc_latest_places, od_latest_places, .func (PySem.W.fnOf "latest_places" "latest_places" (defArgs s_latest_places) (defBody s_latest_places) (defScope s_latest_places) .none kV_latest_places dc_latest_places pm_latest_places an_latest_places cd_latest_places ct_latest_places), sl_latest_places⟩)
    (c_latest_places : PySem.W.codeIn K cd_latest_places "latest_places" = true)
    (k_latest_places : PySem.W.keepIn K (.ref f_latest_places) = true)
    (a_is_needed : PySem.W.nsIn K mainGlobals "is_needed" = some (some (.ref f_is_needed)))
    (l_is_needed : K.lookup f_is_needed = some ⟨oc_is_needed, od_is_needed, .func (PySem.W.fnOf "is_needed" "is_needed" (defArgs s_is_needed) (defBody s_is_needed) (defScope s_is_needed) .none kV_is_needed dc_is_needed pm_is_needed an_is_needed cd_is_needed ct_is_needed), sl_is_needed⟩)
    (c_is_needed : PySem.W.codeIn K cd_is_needed "is_needed" = true)
    (k_is_needed : PySem.W.keepIn K (.ref f_is_needed) = true)
    (a_thin : PySem.W.nsIn K mainGlobals "thin" = some (some (.ref f_thin)))
    (l_thin : K.lookup f_thin = some ⟨oc_thin, od_thin, .func (PySem.W.fnOf "thin" "thin" (defArgs s_thin) (defBody s_thin) (defScope s_thin) .none kV_thin dc_thin pm_thin an_thin cd_thin ct_thin), sl_thin⟩)
    (c_thin : PySem.W.codeIn K cd_thin "thin" = true)
    (k_thin : PySem.W.keepIn K (.ref f_thin) = true)
    (a_law_cell : PySem.W.nsIn K mainGlobals "_law_cell" = some (some (.ref f_law_cell)))
    (l_law_cell : K.lookup f_law_cell = some ⟨oc_law_cell, od_law_cell, .func (PySem.W.fnOf "_law_cell" "_law_cell" (defArgs s_law_cell) (defBody s_law_cell) (defScope s_law_cell) .none kV_law_cell dc_law_cell pm_law_cell an_law_cell cd_law_cell ct_law_cell), sl_law_cell⟩)
    (c_law_cell : PySem.W.codeIn K cd_law_cell "_law_cell" = true)
    (k_law_cell : PySem.W.keepIn K (.ref f_law_cell) = true)
    (a_law_digits : PySem.W.nsIn K mainGlobals "_law_digits" = some (some (.ref f_law_digits)))
    (l_law_digits : K.lookup f_law_digits = some ⟨oc_law_digits, od_law_digits, .func (PySem.W.fnOf "_law_digits" "_law_digits" (defArgs s_law_digits) (defBody s_law_digits) (defScope s_law_digits) .none kV_law_digits dc_law_digits pm_law_digits an_law_digits cd_law_digits ct_law_digits), sl_law_digits⟩)
    (c_law_digits : PySem.W.codeIn K cd_law_digits "_law_digits" = true)
    (k_law_digits : PySem.W.keepIn K (.ref f_law_digits) = true)
    (a_law_seed : PySem.W.nsIn K mainGlobals "_law_seed" = some (some (.ref f_law_seed)))
    (l_law_seed : K.lookup f_law_seed = some ⟨oc_law_seed, od_law_seed, .func (PySem.W.fnOf "_law_seed" "_law_seed" (defArgs s_law_seed) (defBody s_law_seed) (defScope s_law_seed) .none kV_law_seed dc_law_seed pm_law_seed an_law_seed cd_law_seed ct_law_seed), sl_law_seed⟩)
    (c_law_seed : PySem.W.codeIn K cd_law_seed "_law_seed" = true)
    (k_law_seed : PySem.W.keepIn K (.ref f_law_seed) = true)
    (a_law_prefix : PySem.W.nsIn K mainGlobals "_law_prefix" = some (some (.ref f_law_prefix)))
    (l_law_prefix : K.lookup f_law_prefix = some ⟨oc_law_prefix, od_law_prefix, .func (PySem.W.fnOf "_law_prefix" "_law_prefix" (defArgs s_law_prefix) (defBody s_law_prefix) (defScope s_law_prefix) .none kV_law_prefix dc_law_prefix pm_law_prefix an_law_prefix cd_law_prefix ct_law_prefix), sl_law_prefix⟩)
    (c_law_prefix : PySem.W.codeIn K cd_law_prefix "_law_prefix" = true)
    (k_law_prefix : PySem.W.keepIn K (.ref f_law_prefix) = true)
    (a_law_is_int : PySem.W.nsIn K mainGlobals "_law_is_int" = some (some (.ref f_law_is_int)))
    (l_law_is_int : K.lookup f_law_is_int = some ⟨oc_law_is_int, od_law_is_int, .func (PySem.W.fnOf "_law_is_int" "_law_is_int" (defArgs s_law_is_int) (defBody s_law_is_int) (defScope s_law_is_int) .none kV_law_is_int dc_law_is_int pm_law_is_int an_law_is_int cd_law_is_int ct_law_is_int), sl_law_is_int⟩)
    (c_law_is_int : PySem.W.codeIn K cd_law_is_int "_law_is_int" = true)
    (k_law_is_int : PySem.W.keepIn K (.ref f_law_is_int) = true)
    (a_law_ints : PySem.W.nsIn K mainGlobals "_law_ints" = some (some (.ref f_law_ints)))
    (l_law_ints : K.lookup f_law_ints = some ⟨oc_law_ints, od_law_ints, .func (PySem.W.fnOf "_law_ints" "_law_ints" (defArgs s_law_ints) (defBody s_law_ints) (defScope s_law_ints) .none kV_law_ints dc_law_ints pm_law_ints an_law_ints cd_law_ints ct_law_ints), sl_law_ints⟩)
    (c_law_ints : PySem.W.codeIn K cd_law_ints "_law_ints" = true)
    (k_law_ints : PySem.W.keepIn K (.ref f_law_ints) = true)
    (a_law_whole : PySem.W.nsIn K mainGlobals "_law_whole" = some (some (.ref f_law_whole)))
    (l_law_whole : K.lookup f_law_whole = some ⟨oc_law_whole, od_law_whole, .func (PySem.W.fnOf "_law_whole" "_law_whole" (defArgs s_law_whole) (defBody s_law_whole) (defScope s_law_whole) .none kV_law_whole dc_law_whole pm_law_whole an_law_whole cd_law_whole ct_law_whole), sl_law_whole⟩)
    (c_law_whole : PySem.W.codeIn K cd_law_whole "_law_whole" = true)
    (k_law_whole : PySem.W.keepIn K (.ref f_law_whole) = true)
    (a_law_symbol : PySem.W.nsIn K mainGlobals "_law_symbol" = some (some (.ref f_law_symbol)))
    (l_law_symbol : K.lookup f_law_symbol = some ⟨oc_law_symbol, od_law_symbol, .func (PySem.W.fnOf "_law_symbol" "_law_symbol" (defArgs s_law_symbol) (defBody s_law_symbol) (defScope s_law_symbol) .none kV_law_symbol dc_law_symbol pm_law_symbol an_law_symbol cd_law_symbol ct_law_symbol), sl_law_symbol⟩)
    (c_law_symbol : PySem.W.codeIn K cd_law_symbol "_law_symbol" = true)
    (k_law_symbol : PySem.W.keepIn K (.ref f_law_symbol) = true)
    (a_law_lists : PySem.W.nsIn K mainGlobals "_law_lists" = some (some (.ref f_law_lists)))
    (l_law_lists : K.lookup f_law_lists = some ⟨oc_law_lists, od_law_lists, .func (PySem.W.fnOf "_law_lists" "_law_lists" (defArgs s_law_lists) (defBody s_law_lists) (defScope s_law_lists) .none kV_law_lists dc_law_lists pm_law_lists an_law_lists cd_law_lists ct_law_lists), sl_law_lists⟩)
    (c_law_lists : PySem.W.codeIn K cd_law_lists "_law_lists" = true)
    (k_law_lists : PySem.W.keepIn K (.ref f_law_lists) = true)
    (a_law_woven : PySem.W.nsIn K mainGlobals "_law_woven" = some (some (.ref f_law_woven)))
    (l_law_woven : K.lookup f_law_woven = some ⟨oc_law_woven, od_law_woven, .func (PySem.W.fnOf "_law_woven" "_law_woven" (defArgs s_law_woven) (defBody s_law_woven) (defScope s_law_woven) .none kV_law_woven dc_law_woven pm_law_woven an_law_woven cd_law_woven ct_law_woven), sl_law_woven⟩)
    (c_law_woven : PySem.W.codeIn K cd_law_woven "_law_woven" = true)
    (k_law_woven : PySem.W.keepIn K (.ref f_law_woven) = true)
    (a_law_beats : PySem.W.nsIn K mainGlobals "_law_beats" = some (some (.ref f_law_beats)))
    (l_law_beats : K.lookup f_law_beats = some ⟨oc_law_beats, od_law_beats, .func (PySem.W.fnOf "_law_beats" "_law_beats" (defArgs s_law_beats) (defBody s_law_beats) (defScope s_law_beats) .none kV_law_beats dc_law_beats pm_law_beats an_law_beats cd_law_beats ct_law_beats), sl_law_beats⟩)
    (c_law_beats : PySem.W.codeIn K cd_law_beats "_law_beats" = true)
    (k_law_beats : PySem.W.keepIn K (.ref f_law_beats) = true)
    (a_law_thinned : PySem.W.nsIn K mainGlobals "_law_thinned" = some (some (.ref f_law_thinned)))
    (l_law_thinned : K.lookup f_law_thinned = some ⟨oc_law_thinned, od_law_thinned, .func (PySem.W.fnOf "_law_thinned" "_law_thinned" (defArgs s_law_thinned) (defBody s_law_thinned) (defScope s_law_thinned) .none kV_law_thinned dc_law_thinned pm_law_thinned an_law_thinned cd_law_thinned ct_law_thinned), sl_law_thinned⟩)
    (c_law_thinned : PySem.W.codeIn K cd_law_thinned "_law_thinned" = true)
    (k_law_thinned : PySem.W.keepIn K (.ref f_law_thinned) = true)
    (a_law_is_incomplete : PySem.W.nsIn K mainGlobals "_law_is_incomplete" = some (some (.ref f_law_is_incomplete)))
    (l_law_is_incomplete : K.lookup f_law_is_incomplete = some ⟨oc_law_is_incomplete, od_law_is_incomplete, .func (PySem.W.fnOf "_law_is_incomplete" "_law_is_incomplete" (defArgs s_law_is_incomplete) (defBody s_law_is_incomplete) (defScope s_law_is_incomplete) .none kV_law_is_incomplete dc_law_is_incomplete pm_law_is_incomplete an_law_is_incomplete cd_law_is_incomplete ct_law_is_incomplete), sl_law_is_incomplete⟩)
    (c_law_is_incomplete : PySem.W.codeIn K cd_law_is_incomplete "_law_is_incomplete" = true)
    (k_law_is_incomplete : PySem.W.keepIn K (.ref f_law_is_incomplete) = true)
    (a_law_lies : PySem.W.nsIn K mainGlobals "_law_lies" = some (some (.ref f_law_lies)))
    (l_law_lies : K.lookup f_law_lies = some ⟨oc_law_lies, od_law_lies, .func (PySem.W.fnOf "_law_lies" "_law_lies" (defArgs s_law_lies) (defBody s_law_lies) (defScope s_law_lies) .none kV_law_lies dc_law_lies pm_law_lies an_law_lies cd_law_lies ct_law_lies), sl_law_lies⟩)
    (c_law_lies : PySem.W.codeIn K cd_law_lies "_law_lies" = true)
    (k_law_lies : PySem.W.keepIn K (.ref f_law_lies) = true)
    (a_law_told : PySem.W.nsIn K mainGlobals "_law_told" = some (some (.ref f_law_told)))
    (l_law_told : K.lookup f_law_told = some ⟨oc_law_told, od_law_told, .func (PySem.W.fnOf "_law_told" "_law_told" (defArgs s_law_told) (defBody s_law_told) (defScope s_law_told) .none kV_law_told dc_law_told pm_law_told an_law_told cd_law_told ct_law_told), sl_law_told⟩)
    (c_law_told : PySem.W.codeIn K cd_law_told "_law_told" = true)
    (k_law_told : PySem.W.keepIn K (.ref f_law_told) = true)
    (a_law : PySem.W.nsIn K mainGlobals "law" = some (some (.ref f_law)))
    (l_law : K.lookup f_law = some ⟨oc_law, od_law, .func (PySem.W.fnOf "law" "law" (defArgs s_law) (defBody s_law) (defScope s_law) .none kV_law dc_law pm_law an_law cd_law ct_law), sl_law⟩)
    (c_law : PySem.W.codeIn K cd_law "law" = true)
    (k_law : PySem.W.keepIn K (.ref f_law) = true)
    (z_len : PySem.W.nsIn K mainGlobals "len" = some none)
    (z_abs : PySem.W.nsIn K mainGlobals "abs" = some none)
    (z_int : PySem.W.nsIn K mainGlobals "int" = some none)
    (z_list : PySem.W.nsIn K mainGlobals "list" = some none)
    (z_range : PySem.W.nsIn K mainGlobals "range" = some none)
    (z_max : PySem.W.nsIn K mainGlobals "max" = some none)
    (z_isinstance : PySem.W.nsIn K mainGlobals "isinstance" = some none)
    (z_bool : PySem.W.nsIn K mainGlobals "bool" = some none)
    (z_ValueError : PySem.W.nsIn K mainGlobals "ValueError" = some none)
    (aC_BadChange : PySem.W.nsIn K mainGlobals "BadChange" = some (some (.ref C_BadChange)))
    (iC_BadChange : PySem.W.isClsIn K C_BadChange = true)
    (tC_BadChange : PySem.W.typeIn K (.ref C_BadChange) = some (.type "type"))
    (aC_BadDoors : PySem.W.nsIn K mainGlobals "BadDoors" = some (some (.ref C_BadDoors)))
    (iC_BadDoors : PySem.W.isClsIn K C_BadDoors = true)
    (tC_BadDoors : PySem.W.typeIn K (.ref C_BadDoors) = some (.type "type"))
    (aC_BadNode : PySem.W.nsIn K mainGlobals "BadNode" = some (some (.ref C_BadNode)))
    (iC_BadNode : PySem.W.isClsIn K C_BadNode = true)
    (tC_BadNode : PySem.W.typeIn K (.ref C_BadNode) = some (.type "type"))
    (aC_BadOrder : PySem.W.nsIn K mainGlobals "BadOrder" = some (some (.ref C_BadOrder)))
    (iC_BadOrder : PySem.W.isClsIn K C_BadOrder = true)
    (tC_BadOrder : PySem.W.typeIn K (.ref C_BadOrder) = some (.type "type"))
    (aC_BadRing : PySem.W.nsIn K mainGlobals "BadRing" = some (some (.ref C_BadRing)))
    (iC_BadRing : PySem.W.isClsIn K C_BadRing = true)
    (tC_BadRing : PySem.W.typeIn K (.ref C_BadRing) = some (.type "type"))
    (aC_BadRun : PySem.W.nsIn K mainGlobals "BadRun" = some (some (.ref C_BadRun)))
    (iC_BadRun : PySem.W.isClsIn K C_BadRun = true)
    (tC_BadRun : PySem.W.typeIn K (.ref C_BadRun) = some (.type "type"))
    (aC_BadStart : PySem.W.nsIn K mainGlobals "BadStart" = some (some (.ref C_BadStart)))
    (iC_BadStart : PySem.W.isClsIn K C_BadStart = true)
    (tC_BadStart : PySem.W.typeIn K (.ref C_BadStart) = some (.type "type"))
    (aC_BadStay : PySem.W.nsIn K mainGlobals "BadStay" = some (some (.ref C_BadStay)))
    (iC_BadStay : PySem.W.isClsIn K C_BadStay = true)
    (tC_BadStay : PySem.W.typeIn K (.ref C_BadStay) = some (.type "type"))
    (aC_BadWord : PySem.W.nsIn K mainGlobals "BadWord" = some (some (.ref C_BadWord)))
    (iC_BadWord : PySem.W.isClsIn K C_BadWord = true)
    (tC_BadWord : PySem.W.typeIn K (.ref C_BadWord) = some (.type "type"))
    (aC_BareLoop : PySem.W.nsIn K mainGlobals "BareLoop" = some (some (.ref C_BareLoop)))
    (iC_BareLoop : PySem.W.isClsIn K C_BareLoop = true)
    (tC_BareLoop : PySem.W.typeIn K (.ref C_BareLoop) = some (.type "type"))
    (aC_DeskError : PySem.W.nsIn K mainGlobals "DeskError" = some (some (.ref C_DeskError)))
    (iC_DeskError : PySem.W.isClsIn K C_DeskError = true)
    (tC_DeskError : PySem.W.typeIn K (.ref C_DeskError) = some (.type "type"))
    (aC_ForeworthError : PySem.W.nsIn K mainGlobals "ForeworthError" = some (some (.ref C_ForeworthError)))
    (iC_ForeworthError : PySem.W.isClsIn K C_ForeworthError = true)
    (tC_ForeworthError : PySem.W.typeIn K (.ref C_ForeworthError) = some (.type "type"))
    (aC_Incomplete : PySem.W.nsIn K mainGlobals "Incomplete" = some (some (.ref C_Incomplete)))
    (iC_Incomplete : PySem.W.isClsIn K C_Incomplete = true)
    (tC_Incomplete : PySem.W.typeIn K (.ref C_Incomplete) = some (.type "type"))
    (aC_MixedGraphs : PySem.W.nsIn K mainGlobals "MixedGraphs" = some (some (.ref C_MixedGraphs)))
    (iC_MixedGraphs : PySem.W.isClsIn K C_MixedGraphs = true)
    (tC_MixedGraphs : PySem.W.typeIn K (.ref C_MixedGraphs) = some (.type "type"))
    (aC_NoEnd : PySem.W.nsIn K mainGlobals "NoEnd" = some (some (.ref C_NoEnd)))
    (iC_NoEnd : PySem.W.isClsIn K C_NoEnd = true)
    (tC_NoEnd : PySem.W.typeIn K (.ref C_NoEnd) = some (.type "type"))
    (aC_NoWild : PySem.W.nsIn K mainGlobals "NoWild" = some (some (.ref C_NoWild)))
    (iC_NoWild : PySem.W.isClsIn K C_NoWild = true)
    (tC_NoWild : PySem.W.typeIn K (.ref C_NoWild) = some (.type "type"))
    (aC_NotOver : PySem.W.nsIn K mainGlobals "NotOver" = some (some (.ref C_NotOver)))
    (iC_NotOver : PySem.W.isClsIn K C_NotOver = true)
    (tC_NotOver : PySem.W.typeIn K (.ref C_NotOver) = some (.type "type"))
    (aC_NotStanding : PySem.W.nsIn K mainGlobals "NotStanding" = some (some (.ref C_NotStanding)))
    (iC_NotStanding : PySem.W.isClsIn K C_NotStanding = true)
    (tC_NotStanding : PySem.W.typeIn K (.ref C_NotStanding) = some (.type "type"))
    (aC_TextError : PySem.W.nsIn K mainGlobals "TextError" = some (some (.ref C_TextError)))
    (iC_TextError : PySem.W.isClsIn K C_TextError = true)
    (tC_TextError : PySem.W.typeIn K (.ref C_TextError) = some (.type "type"))
    (aC_TooLarge : PySem.W.nsIn K mainGlobals "TooLarge" = some (some (.ref C_TooLarge)))
    (iC_TooLarge : PySem.W.isClsIn K C_TooLarge = true)
    (tC_TooLarge : PySem.W.typeIn K (.ref C_TooLarge) = some (.type "type"))
    (aC_Unreachable : PySem.W.nsIn K mainGlobals "Unreachable" = some (some (.ref C_Unreachable)))
    (iC_Unreachable : PySem.W.isClsIn K C_Unreachable = true)
    (tC_Unreachable : PySem.W.typeIn K (.ref C_Unreachable) = some (.type "type"))
    (aC_WildProgram : PySem.W.nsIn K mainGlobals "WildProgram" = some (some (.ref C_WildProgram)))
    (iC_WildProgram : PySem.W.isClsIn K C_WildProgram = true)
    (tC_WildProgram : PySem.W.typeIn K (.ref C_WildProgram) = some (.type "type"))
    (sB_ForeworthError : PySem.W.subIn K (.ref C_ForeworthError) (.type "BaseException") = some true)
    (sB_Incomplete : PySem.W.subIn K (.ref C_Incomplete) (.type "BaseException") = some true)
    (kC_Incomplete : PySem.W.keepIn K (.ref C_Incomplete) = true)
    (xC_Incomplete : PySem.W.excIn K C_Incomplete [.type "ValueError", .type "Exception", .type "BaseException", .type "object"] "ValueError.__new__" = true)
    (e1_Incomplete : PySem.W.findIn K (.ref C_Incomplete) "__getattribute__" = some (some (.builtin "BaseException.__getattribute__")))
    (e2_Incomplete : PySem.W.findIn K (.ref C_Incomplete) "__getattr__" = some none)
    (e4_Incomplete : PySem.W.hasDictIn K C_Incomplete = true)
    (e5_Incomplete : PySem.W.findIn K (.ref C_Incomplete) "__class__" = some (some (.builtin "object.__class__")))
    (e8_Incomplete : PySem.W.mroIn K C_Incomplete (.type "object") = some true)
    (s_Incomplete_BadChange : PySem.W.subIn K (.ref C_Incomplete) (.ref C_BadChange) = some false)
    (n_Incomplete_BadChange : (Value.ref C_Incomplete == Value.ref C_BadChange) = false)
    (s_Incomplete_BadDoors : PySem.W.subIn K (.ref C_Incomplete) (.ref C_BadDoors) = some false)
    (n_Incomplete_BadDoors : (Value.ref C_Incomplete == Value.ref C_BadDoors) = false)
    (s_Incomplete_BadNode : PySem.W.subIn K (.ref C_Incomplete) (.ref C_BadNode) = some false)
    (n_Incomplete_BadNode : (Value.ref C_Incomplete == Value.ref C_BadNode) = false)
    (s_Incomplete_BadOrder : PySem.W.subIn K (.ref C_Incomplete) (.ref C_BadOrder) = some false)
    (n_Incomplete_BadOrder : (Value.ref C_Incomplete == Value.ref C_BadOrder) = false)
    (s_Incomplete_BadRing : PySem.W.subIn K (.ref C_Incomplete) (.ref C_BadRing) = some false)
    (n_Incomplete_BadRing : (Value.ref C_Incomplete == Value.ref C_BadRing) = false)
    (s_Incomplete_BadRun : PySem.W.subIn K (.ref C_Incomplete) (.ref C_BadRun) = some false)
    (n_Incomplete_BadRun : (Value.ref C_Incomplete == Value.ref C_BadRun) = false)
    (s_Incomplete_BadStart : PySem.W.subIn K (.ref C_Incomplete) (.ref C_BadStart) = some false)
    (n_Incomplete_BadStart : (Value.ref C_Incomplete == Value.ref C_BadStart) = false)
    (s_Incomplete_BadStay : PySem.W.subIn K (.ref C_Incomplete) (.ref C_BadStay) = some false)
    (n_Incomplete_BadStay : (Value.ref C_Incomplete == Value.ref C_BadStay) = false)
    (s_Incomplete_BadWord : PySem.W.subIn K (.ref C_Incomplete) (.ref C_BadWord) = some false)
    (n_Incomplete_BadWord : (Value.ref C_Incomplete == Value.ref C_BadWord) = false)
    (s_Incomplete_BareLoop : PySem.W.subIn K (.ref C_Incomplete) (.ref C_BareLoop) = some false)
    (n_Incomplete_BareLoop : (Value.ref C_Incomplete == Value.ref C_BareLoop) = false)
    (s_Incomplete_DeskError : PySem.W.subIn K (.ref C_Incomplete) (.ref C_DeskError) = some false)
    (n_Incomplete_DeskError : (Value.ref C_Incomplete == Value.ref C_DeskError) = false)
    (s_Incomplete_ForeworthError : PySem.W.subIn K (.ref C_Incomplete) (.ref C_ForeworthError) = some true)
    (n_Incomplete_ForeworthError : (Value.ref C_Incomplete == Value.ref C_ForeworthError) = false)
    (s_Incomplete_MixedGraphs : PySem.W.subIn K (.ref C_Incomplete) (.ref C_MixedGraphs) = some false)
    (n_Incomplete_MixedGraphs : (Value.ref C_Incomplete == Value.ref C_MixedGraphs) = false)
    (s_Incomplete_NoEnd : PySem.W.subIn K (.ref C_Incomplete) (.ref C_NoEnd) = some false)
    (n_Incomplete_NoEnd : (Value.ref C_Incomplete == Value.ref C_NoEnd) = false)
    (s_Incomplete_NoWild : PySem.W.subIn K (.ref C_Incomplete) (.ref C_NoWild) = some false)
    (n_Incomplete_NoWild : (Value.ref C_Incomplete == Value.ref C_NoWild) = false)
    (s_Incomplete_NotOver : PySem.W.subIn K (.ref C_Incomplete) (.ref C_NotOver) = some false)
    (n_Incomplete_NotOver : (Value.ref C_Incomplete == Value.ref C_NotOver) = false)
    (s_Incomplete_NotStanding : PySem.W.subIn K (.ref C_Incomplete) (.ref C_NotStanding) = some false)
    (n_Incomplete_NotStanding : (Value.ref C_Incomplete == Value.ref C_NotStanding) = false)
    (s_Incomplete_TextError : PySem.W.subIn K (.ref C_Incomplete) (.ref C_TextError) = some false)
    (n_Incomplete_TextError : (Value.ref C_Incomplete == Value.ref C_TextError) = false)
    (s_Incomplete_TooLarge : PySem.W.subIn K (.ref C_Incomplete) (.ref C_TooLarge) = some false)
    (n_Incomplete_TooLarge : (Value.ref C_Incomplete == Value.ref C_TooLarge) = false)
    (s_Incomplete_Unreachable : PySem.W.subIn K (.ref C_Incomplete) (.ref C_Unreachable) = some false)
    (n_Incomplete_Unreachable : (Value.ref C_Incomplete == Value.ref C_Unreachable) = false)
    (s_Incomplete_ValueError : PySem.W.subIn K (.ref C_Incomplete) (.type "ValueError") = some true)
    (s_Incomplete_WildProgram : PySem.W.subIn K (.ref C_Incomplete) (.ref C_WildProgram) = some false)
    (n_Incomplete_WildProgram : (Value.ref C_Incomplete == Value.ref C_WildProgram) = false)
    (e6 : PySem.W.specialIn K (.builtin "object.__class__") "__get__" = some (some (.builtin "getset_descriptor.__get__")))
    (e7 : PySem.W.takesIn K (.builtin "object.__class__") = some true) :
    ∃ fd : FuncData, (∀ (s : Shared) (v : Value), BindsTo s fd ⟨[v], []⟩ [("_law_script", v)]) ∧ ∀ base : Heap, K.In base → base.Ns mainGlobals mg → FnOk P w K mg base (L2N.CX P w) 5 fa fd ["_law_script"] (spLaw K) := by
  have e := hfa.symm.trans (PySem.W.mg_of X G a_law)
  cases e
  have F_prefix_length := fun_mk (st := s_prefix_length) l_prefix_length c_prefix_length k_prefix_length
  have b_prefix_length := F_prefix_length.binds (ps := ["run", "schedule"]) fun _ _ _ _ _ _ us hl => match us, hl with | [_, _], _ => rfl
  have F_prefixes := fun_mk (st := s_prefixes) l_prefixes c_prefixes k_prefixes
  have b_prefixes := F_prefixes.binds (ps := ["runs", "schedule"]) fun _ _ _ _ _ _ us hl => match us, hl with | [_, _], _ => rfl
  have F_is_complete := fun_mk (st := s_is_complete) l_is_complete c_is_complete k_is_complete
  have b_is_complete := F_is_complete.binds (ps := ["runs", "schedule"]) fun _ _ _ _ _ _ us hl => match us, hl with | [_, _], _ => rfl
  have F_latest_places := fun_mk (st := s_latest_places) l_latest_places c_latest_places k_latest_places
  have b_latest_places := F_latest_places.binds (ps := ["run", "schedule"]) fun _ _ _ _ _ _ us hl => match us, hl with | [_, _], _ => rfl
  have F_is_needed := fun_mk (st := s_is_needed) l_is_needed c_is_needed k_is_needed
  have b_is_needed := F_is_needed.binds (ps := ["done", "latest", "index"]) fun _ _ _ _ _ _ us hl => match us, hl with | [_, _, _], _ => rfl
  have F_thin := fun_mk (st := s_thin) l_thin c_thin k_thin
  have b_thin := F_thin.binds (ps := ["runs", "schedule"]) fun _ _ _ _ _ _ us hl => match us, hl with | [_, _], _ => rfl
  have F_law_cell := fun_mk (st := s_law_cell) l_law_cell c_law_cell k_law_cell
  have b_law_cell := F_law_cell.binds (ps := ["_law_script", "_law_k"]) fun _ _ _ _ _ _ us hl => match us, hl with | [_, _], _ => rfl
  have F_law_digits := fun_mk (st := s_law_digits) l_law_digits c_law_digits k_law_digits
  have b_law_digits := F_law_digits.binds (ps := ["_law_cell_here", "_law_count", "_law_size"]) fun _ _ _ _ _ _ us hl => match us, hl with | [_, _, _], _ => rfl
  have F_law_seed := fun_mk (st := s_law_seed) l_law_seed c_law_seed k_law_seed
  have b_law_seed := F_law_seed.binds (ps := ["_law_script", "_law_k"]) fun _ _ _ _ _ _ us hl => match us, hl with | [_, _], _ => rfl
  have F_law_prefix := fun_mk (st := s_law_prefix) l_law_prefix c_law_prefix k_law_prefix
  have b_law_prefix := F_law_prefix.binds (ps := ["_law_run", "_law_schedule"]) fun _ _ _ _ _ _ us hl => match us, hl with | [_, _], _ => rfl
  have F_law_is_int := fun_mk (st := s_law_is_int) l_law_is_int c_law_is_int k_law_is_int
  have b_law_is_int := F_law_is_int.binds (ps := ["_law_value"]) fun _ _ _ _ _ _ us hl => match us, hl with | [_], _ => rfl
  have F_law_ints := fun_mk (st := s_law_ints) l_law_ints c_law_ints k_law_ints
  have b_law_ints := F_law_ints.binds (ps := ["_law_row"]) fun _ _ _ _ _ _ us hl => match us, hl with | [_], _ => rfl
  have F_law_whole := fun_mk (st := s_law_whole) l_law_whole c_law_whole k_law_whole
  have b_law_whole := F_law_whole.binds (ps := ["_law_runs", "_law_schedule"]) fun _ _ _ _ _ _ us hl => match us, hl with | [_, _], _ => rfl
  have F_law_symbol := fun_mk (st := s_law_symbol) l_law_symbol c_law_symbol k_law_symbol
  have b_law_symbol := F_law_symbol.binds (ps := ["_law_turn", "_law_digit"]) fun _ _ _ _ _ _ us hl => match us, hl with | [_, _], _ => rfl
  have F_law_lists := fun_mk (st := s_law_lists) l_law_lists c_law_lists k_law_lists
  have b_law_lists := F_law_lists.binds (ps := ["_law_script", "_law_turn"]) fun _ _ _ _ _ _ us hl => match us, hl with | [_, _], _ => rfl
  have F_law_woven := fun_mk (st := s_law_woven) l_law_woven c_law_woven k_law_woven
  have b_law_woven := F_law_woven.binds (ps := ["_law_lists_here", "_law_extra", "_law_cell_here"]) fun _ _ _ _ _ _ us hl => match us, hl with | [_, _, _], _ => rfl
  have F_law_beats := fun_mk (st := s_law_beats) l_law_beats c_law_beats k_law_beats
  have b_law_beats := F_law_beats.binds (ps := ["_law_script", "_law_lists_here", "_law_turn"]) fun _ _ _ _ _ _ us hl => match us, hl with | [_, _, _], _ => rfl
  have F_law_thinned := fun_mk (st := s_law_thinned) l_law_thinned c_law_thinned k_law_thinned
  have b_law_thinned := F_law_thinned.binds (ps := ["_law_lists_here", "_law_beats_here"]) fun _ _ _ _ _ _ us hl => match us, hl with | [_, _], _ => rfl
  have F_law_is_incomplete := fun_mk (st := s_law_is_incomplete) l_law_is_incomplete c_law_is_incomplete k_law_is_incomplete
  have b_law_is_incomplete := F_law_is_incomplete.binds (ps := ["_law_e"]) fun _ _ _ _ _ _ us hl => match us, hl with | [_], _ => rfl
  have F_law_lies := fun_mk (st := s_law_lies) l_law_lies c_law_lies k_law_lies
  have b_law_lies := F_law_lies.binds (ps := ["_law_lists_here", "_law_beats_here"]) fun _ _ _ _ _ _ us hl => match us, hl with | [_, _], _ => rfl
  have F_law_told := fun_mk (st := s_law_told) l_law_told c_law_told k_law_told
  have b_law_told := F_law_told.binds (ps := ["_law_lists_here", "_law_beats_here"]) fun _ _ _ _ _ _ us hl => match us, hl with | [_, _], _ => rfl
  have F_law := fun_mk (st := s_law) l_law c_law k_law
  have b_law := F_law.binds (ps := ["_law_script"]) fun _ _ _ _ _ _ us hl => match us, hl with | [_], _ => rfl
  let T : Txt K mg := ⟨f_prefix_length, _, F_prefix_length, k_prefix_length, PySem.W.mg_of X G a_prefix_length, b_prefix_length, f_prefixes, _, F_prefixes, k_prefixes, PySem.W.mg_of X G a_prefixes, b_prefixes, f_is_complete, _, F_is_complete, k_is_complete, PySem.W.mg_of X G a_is_complete, b_is_complete, f_latest_places, _, F_latest_places, k_latest_places, PySem.W.mg_of X G a_latest_places, b_latest_places, f_is_needed, _, F_is_needed, k_is_needed, PySem.W.mg_of X G a_is_needed, b_is_needed, f_thin, _, F_thin, k_thin, PySem.W.mg_of X G a_thin, b_thin, f_law_cell, _, F_law_cell, k_law_cell, PySem.W.mg_of X G a_law_cell, b_law_cell, f_law_digits, _, F_law_digits, k_law_digits, PySem.W.mg_of X G a_law_digits, b_law_digits, f_law_seed, _, F_law_seed, k_law_seed, PySem.W.mg_of X G a_law_seed, b_law_seed, f_law_prefix, _, F_law_prefix, k_law_prefix, PySem.W.mg_of X G a_law_prefix, b_law_prefix, f_law_is_int, _, F_law_is_int, k_law_is_int, PySem.W.mg_of X G a_law_is_int, b_law_is_int, f_law_ints, _, F_law_ints, k_law_ints, PySem.W.mg_of X G a_law_ints, b_law_ints, f_law_whole, _, F_law_whole, k_law_whole, PySem.W.mg_of X G a_law_whole, b_law_whole, f_law_symbol, _, F_law_symbol, k_law_symbol, PySem.W.mg_of X G a_law_symbol, b_law_symbol, f_law_lists, _, F_law_lists, k_law_lists, PySem.W.mg_of X G a_law_lists, b_law_lists, f_law_woven, _, F_law_woven, k_law_woven, PySem.W.mg_of X G a_law_woven, b_law_woven, f_law_beats, _, F_law_beats, k_law_beats, PySem.W.mg_of X G a_law_beats, b_law_beats, f_law_thinned, _, F_law_thinned, k_law_thinned, PySem.W.mg_of X G a_law_thinned, b_law_thinned, f_law_is_incomplete, _, F_law_is_incomplete, k_law_is_incomplete, PySem.W.mg_of X G a_law_is_incomplete, b_law_is_incomplete, f_law_lies, _, F_law_lies, k_law_lies, PySem.W.mg_of X G a_law_lies, b_law_lies, f_law_told, _, F_law_told, k_law_told, PySem.W.mg_of X G a_law_told, b_law_told, fa, _, F_law, k_law, PySem.W.mg_of X G a_law, b_law, PySem.W.mg_none_of X G z_len, PySem.W.mg_none_of X G z_abs, PySem.W.mg_none_of X G z_int, PySem.W.mg_none_of X G z_list, PySem.W.mg_none_of X G z_range, PySem.W.mg_none_of X G z_max, PySem.W.mg_none_of X G z_isinstance, PySem.W.mg_none_of X G z_bool, PySem.W.mg_none_of X G z_ValueError, C_BadChange, PySem.W.mg_of X G aC_BadChange, C_BadDoors, PySem.W.mg_of X G aC_BadDoors, C_BadNode, PySem.W.mg_of X G aC_BadNode, C_BadOrder, PySem.W.mg_of X G aC_BadOrder, C_BadRing, PySem.W.mg_of X G aC_BadRing, C_BadRun, PySem.W.mg_of X G aC_BadRun, C_BadStart, PySem.W.mg_of X G aC_BadStart, C_BadStay, PySem.W.mg_of X G aC_BadStay, C_BadWord, PySem.W.mg_of X G aC_BadWord, C_BareLoop, PySem.W.mg_of X G aC_BareLoop, C_DeskError, PySem.W.mg_of X G aC_DeskError, C_ForeworthError, PySem.W.mg_of X G aC_ForeworthError, C_Incomplete, PySem.W.mg_of X G aC_Incomplete, C_MixedGraphs, PySem.W.mg_of X G aC_MixedGraphs, C_NoEnd, PySem.W.mg_of X G aC_NoEnd, C_NoWild, PySem.W.mg_of X G aC_NoWild, C_NotOver, PySem.W.mg_of X G aC_NotOver, C_NotStanding, PySem.W.mg_of X G aC_NotStanding, C_TextError, PySem.W.mg_of X G aC_TextError, C_TooLarge, PySem.W.mg_of X G aC_TooLarge, C_Unreachable, PySem.W.mg_of X G aC_Unreachable, C_WildProgram, PySem.W.mg_of X G aC_WildProgram, kC_Incomplete, xC_Incomplete, sB_Incomplete, tC_Incomplete, ⟨e1_Incomplete, e2_Incomplete, sB_Incomplete, e4_Incomplete, e5_Incomplete, e6, e7, e8_Incomplete⟩, (exm_own sB_ForeworthError iC_ForeworthError tC_ForeworthError s_Incomplete_ForeworthError), (kitAny_cons (kit_own n_Incomplete_BadNode iC_BadNode tC_BadNode s_Incomplete_BadNode) (fun _ => (kitAny_cons (kit_own n_Incomplete_Unreachable iC_Unreachable tC_Unreachable s_Incomplete_Unreachable) (fun _ => (kitAny_cons (kit_own n_Incomplete_NoEnd iC_NoEnd tC_NoEnd s_Incomplete_NoEnd) (fun _ => (kitAny_cons (kit_own n_Incomplete_BadRing iC_BadRing tC_BadRing s_Incomplete_BadRing) (fun _ => (kitAny_cons (kit_own n_Incomplete_TextError iC_TextError tC_TextError s_Incomplete_TextError) (fun _ => (kitAny_cons (kit_own n_Incomplete_BareLoop iC_BareLoop tC_BareLoop s_Incomplete_BareLoop) (fun _ => (kitAny_cons (kit_own n_Incomplete_BadStart iC_BadStart tC_BadStart s_Incomplete_BadStart) (fun _ => (kitAny_cons (kit_own n_Incomplete_BadRun iC_BadRun tC_BadRun s_Incomplete_BadRun) (fun _ => (kitAny_cons (kit_own n_Incomplete_NotStanding iC_NotStanding tC_NotStanding s_Incomplete_NotStanding) (fun _ => rfl) (fun z => nomatch z))) (fun z => nomatch z))) (fun z => nomatch z))) (fun z => nomatch z))) (fun z => nomatch z))) (fun z => nomatch z))) (fun z => nomatch z))) (fun z => nomatch z))) (fun z => nomatch z)), (kitAny_cons (kit_own n_Incomplete_BadStay iC_BadStay tC_BadStay s_Incomplete_BadStay) (fun _ => (kitAny_cons (kit_own n_Incomplete_TooLarge iC_TooLarge tC_TooLarge s_Incomplete_TooLarge) (fun _ => (kitAny_cons (kit_own n_Incomplete_WildProgram iC_WildProgram tC_WildProgram s_Incomplete_WildProgram) (fun _ => (kitAny_cons (kit_own n_Incomplete_NoWild iC_NoWild tC_NoWild s_Incomplete_NoWild) (fun _ => (kitAny_cons (kit_own n_Incomplete_BadWord iC_BadWord tC_BadWord s_Incomplete_BadWord) (fun _ => (kitAny_cons (kit_own n_Incomplete_BadChange iC_BadChange tC_BadChange s_Incomplete_BadChange) (fun _ => (kitAny_cons (kit_own n_Incomplete_BadDoors iC_BadDoors tC_BadDoors s_Incomplete_BadDoors) (fun _ => (kitAny_cons (kit_own n_Incomplete_BadOrder iC_BadOrder tC_BadOrder s_Incomplete_BadOrder) (fun _ => (kitAny_cons (kit_own n_Incomplete_MixedGraphs iC_MixedGraphs tC_MixedGraphs s_Incomplete_MixedGraphs) (fun _ => rfl) (fun z => nomatch z))) (fun z => nomatch z))) (fun z => nomatch z))) (fun z => nomatch z))) (fun z => nomatch z))) (fun z => nomatch z))) (fun z => nomatch z))) (fun z => nomatch z))) (fun z => nomatch z)), (kitAny_cons (kit_own n_Incomplete_NotOver iC_NotOver tC_NotOver s_Incomplete_NotOver) (fun _ => (kitAny_cons (kit_own n_Incomplete_DeskError iC_DeskError tC_DeskError s_Incomplete_DeskError) (fun _ => rfl) (fun z => nomatch z))) (fun z => nomatch z)), (kitAny_cons (kit_bt (by decide +kernel) s_Incomplete_ValueError) (fun z => nomatch z) (fun _ => rfl)), (kitAny_cons kit_self (fun z => nomatch z) (fun _ => rfl))⟩
  exact ⟨PySem.W.fnOf "law" "law" (defArgs s_law) (defBody s_law) (defScope s_law) .none kV_law dc_law pm_law an_law cd_law ct_law, fun s v => .of_eq rfl, fun base _ _ => law_ok (ok_law T) (plain T)⟩
end
end K13

open PyProof.Rows PySem.W PySem in set_option maxRecDepth 100000 in set_option maxHeartbeats 0 in
theorem PySem.Challenge.cw_foreworth_k13_prefixes_and_thin_holds : PySem.Challenge.rw_foreworth_k13_prefixes_and_thin.Holds := by
  w_on
  o_law; k_head; (case hw => w_witness2)
  k_fill
  refine Mv.law_walk (l := PySem.Challenge.rw_foreworth_k13_prefixes_and_thin) (k := 5) (x := "_law_script") rfl rfl ⟨rfl, by decide, by decide⟩ (fun w h Y => PySem.W.kIn_of Y) ?F
  case F =>
    intro w mg fa h KX G hmg
    refine' K13.all_mk KX G hmg ?a_prefix_length ?l_prefix_length ?c_prefix_length ?k_prefix_length ?a_prefixes ?l_prefixes ?c_prefixes ?k_prefixes ?a_is_complete ?l_is_complete ?c_is_complete ?k_is_complete ?a_latest_places ?l_latest_places ?c_latest_places ?k_latest_places ?a_is_needed ?l_is_needed ?c_is_needed ?k_is_needed ?a_thin ?l_thin ?c_thin ?k_thin ?a_law_cell ?l_law_cell ?c_law_cell ?k_law_cell ?a_law_digits ?l_law_digits ?c_law_digits ?k_law_digits ?a_law_seed ?l_law_seed ?c_law_seed ?k_law_seed ?a_law_prefix ?l_law_prefix ?c_law_prefix ?k_law_prefix ?a_law_is_int ?l_law_is_int ?c_law_is_int ?k_law_is_int ?a_law_ints ?l_law_ints ?c_law_ints ?k_law_ints ?a_law_whole ?l_law_whole ?c_law_whole ?k_law_whole ?a_law_symbol ?l_law_symbol ?c_law_symbol ?k_law_symbol ?a_law_lists ?l_law_lists ?c_law_lists ?k_law_lists ?a_law_woven ?l_law_woven ?c_law_woven ?k_law_woven ?a_law_beats ?l_law_beats ?c_law_beats ?k_law_beats ?a_law_thinned ?l_law_thinned ?c_law_thinned ?k_law_thinned ?a_law_is_incomplete ?l_law_is_incomplete ?c_law_is_incomplete ?k_law_is_incomplete ?a_law_lies ?l_law_lies ?c_law_lies ?k_law_lies ?a_law_told ?l_law_told ?c_law_told ?k_law_told ?a_law ?l_law ?c_law ?k_law ?z_len ?z_abs ?z_int ?z_list ?z_range ?z_max ?z_isinstance ?z_bool ?z_ValueError ?aC_BadChange ?iC_BadChange ?tC_BadChange ?aC_BadDoors ?iC_BadDoors ?tC_BadDoors ?aC_BadNode ?iC_BadNode ?tC_BadNode ?aC_BadOrder ?iC_BadOrder ?tC_BadOrder ?aC_BadRing ?iC_BadRing ?tC_BadRing ?aC_BadRun ?iC_BadRun ?tC_BadRun ?aC_BadStart ?iC_BadStart ?tC_BadStart ?aC_BadStay ?iC_BadStay ?tC_BadStay ?aC_BadWord ?iC_BadWord ?tC_BadWord ?aC_BareLoop ?iC_BareLoop ?tC_BareLoop ?aC_DeskError ?iC_DeskError ?tC_DeskError ?aC_ForeworthError ?iC_ForeworthError ?tC_ForeworthError ?aC_Incomplete ?iC_Incomplete ?tC_Incomplete ?aC_MixedGraphs ?iC_MixedGraphs ?tC_MixedGraphs ?aC_NoEnd ?iC_NoEnd ?tC_NoEnd ?aC_NoWild ?iC_NoWild ?tC_NoWild ?aC_NotOver ?iC_NotOver ?tC_NotOver ?aC_NotStanding ?iC_NotStanding ?tC_NotStanding ?aC_TextError ?iC_TextError ?tC_TextError ?aC_TooLarge ?iC_TooLarge ?tC_TooLarge ?aC_Unreachable ?iC_Unreachable ?tC_Unreachable ?aC_WildProgram ?iC_WildProgram ?tC_WildProgram ?sB_ForeworthError ?sB_Incomplete ?kC_Incomplete ?xC_Incomplete ?e1_Incomplete ?e2_Incomplete ?e4_Incomplete ?e5_Incomplete ?e8_Incomplete ?s_Incomplete_BadChange ?n_Incomplete_BadChange ?s_Incomplete_BadDoors ?n_Incomplete_BadDoors ?s_Incomplete_BadNode ?n_Incomplete_BadNode ?s_Incomplete_BadOrder ?n_Incomplete_BadOrder ?s_Incomplete_BadRing ?n_Incomplete_BadRing ?s_Incomplete_BadRun ?n_Incomplete_BadRun ?s_Incomplete_BadStart ?n_Incomplete_BadStart ?s_Incomplete_BadStay ?n_Incomplete_BadStay ?s_Incomplete_BadWord ?n_Incomplete_BadWord ?s_Incomplete_BareLoop ?n_Incomplete_BareLoop ?s_Incomplete_DeskError ?n_Incomplete_DeskError ?s_Incomplete_ForeworthError ?n_Incomplete_ForeworthError ?s_Incomplete_MixedGraphs ?n_Incomplete_MixedGraphs ?s_Incomplete_NoEnd ?n_Incomplete_NoEnd ?s_Incomplete_NoWild ?n_Incomplete_NoWild ?s_Incomplete_NotOver ?n_Incomplete_NotOver ?s_Incomplete_NotStanding ?n_Incomplete_NotStanding ?s_Incomplete_TextError ?n_Incomplete_TextError ?s_Incomplete_TooLarge ?n_Incomplete_TooLarge ?s_Incomplete_Unreachable ?n_Incomplete_Unreachable ?s_Incomplete_ValueError ?s_Incomplete_WildProgram ?n_Incomplete_WildProgram ?e6 ?e7
    (case a_prefix_length => k_is)
    (case l_prefix_length => k_is)
    (case c_prefix_length => k_is)
    (case k_prefix_length => k_is)
    (case a_prefixes => k_is)
    (case l_prefixes => k_is)
    (case c_prefixes => k_is)
    (case k_prefixes => k_is)
    (case a_is_complete => k_is)
    (case l_is_complete => k_is)
    (case c_is_complete => k_is)
    (case k_is_complete => k_is)
    (case a_latest_places => k_is)
    (case l_latest_places => k_is)
    (case c_latest_places => k_is)
    (case k_latest_places => k_is)
    (case a_is_needed => k_is)
    (case l_is_needed => k_is)
    (case c_is_needed => k_is)
    (case k_is_needed => k_is)
    (case a_thin => k_is)
    (case l_thin => k_is)
    (case c_thin => k_is)
    (case k_thin => k_is)
    (case a_law_cell => k_is)
    (case l_law_cell => k_is)
    (case c_law_cell => k_is)
    (case k_law_cell => k_is)
    (case a_law_digits => k_is)
    (case l_law_digits => k_is)
    (case c_law_digits => k_is)
    (case k_law_digits => k_is)
    (case a_law_seed => k_is)
    (case l_law_seed => k_is)
    (case c_law_seed => k_is)
    (case k_law_seed => k_is)
    (case a_law_prefix => k_is)
    (case l_law_prefix => k_is)
    (case c_law_prefix => k_is)
    (case k_law_prefix => k_is)
    (case a_law_is_int => k_is)
    (case l_law_is_int => k_is)
    (case c_law_is_int => k_is)
    (case k_law_is_int => k_is)
    (case a_law_ints => k_is)
    (case l_law_ints => k_is)
    (case c_law_ints => k_is)
    (case k_law_ints => k_is)
    (case a_law_whole => k_is)
    (case l_law_whole => k_is)
    (case c_law_whole => k_is)
    (case k_law_whole => k_is)
    (case a_law_symbol => k_is)
    (case l_law_symbol => k_is)
    (case c_law_symbol => k_is)
    (case k_law_symbol => k_is)
    (case a_law_lists => k_is)
    (case l_law_lists => k_is)
    (case c_law_lists => k_is)
    (case k_law_lists => k_is)
    (case a_law_woven => k_is)
    (case l_law_woven => k_is)
    (case c_law_woven => k_is)
    (case k_law_woven => k_is)
    (case a_law_beats => k_is)
    (case l_law_beats => k_is)
    (case c_law_beats => k_is)
    (case k_law_beats => k_is)
    (case a_law_thinned => k_is)
    (case l_law_thinned => k_is)
    (case c_law_thinned => k_is)
    (case k_law_thinned => k_is)
    (case a_law_is_incomplete => k_is)
    (case l_law_is_incomplete => k_is)
    (case c_law_is_incomplete => k_is)
    (case k_law_is_incomplete => k_is)
    (case a_law_lies => k_is)
    (case l_law_lies => k_is)
    (case c_law_lies => k_is)
    (case k_law_lies => k_is)
    (case a_law_told => k_is)
    (case l_law_told => k_is)
    (case c_law_told => k_is)
    (case k_law_told => k_is)
    (case a_law => k_is)
    (case l_law => k_is)
    (case c_law => k_is)
    (case k_law => k_is)
    (case z_len => k_is)
    (case z_abs => k_is)
    (case z_int => k_is)
    (case z_list => k_is)
    (case z_range => k_is)
    (case z_max => k_is)
    (case z_isinstance => k_is)
    (case z_bool => k_is)
    (case z_ValueError => k_is)
    (case aC_BadChange => k_is)
    (case iC_BadChange => k_is)
    (case tC_BadChange => k_is)
    (case aC_BadDoors => k_is)
    (case iC_BadDoors => k_is)
    (case tC_BadDoors => k_is)
    (case aC_BadNode => k_is)
    (case iC_BadNode => k_is)
    (case tC_BadNode => k_is)
    (case aC_BadOrder => k_is)
    (case iC_BadOrder => k_is)
    (case tC_BadOrder => k_is)
    (case aC_BadRing => k_is)
    (case iC_BadRing => k_is)
    (case tC_BadRing => k_is)
    (case aC_BadRun => k_is)
    (case iC_BadRun => k_is)
    (case tC_BadRun => k_is)
    (case aC_BadStart => k_is)
    (case iC_BadStart => k_is)
    (case tC_BadStart => k_is)
    (case aC_BadStay => k_is)
    (case iC_BadStay => k_is)
    (case tC_BadStay => k_is)
    (case aC_BadWord => k_is)
    (case iC_BadWord => k_is)
    (case tC_BadWord => k_is)
    (case aC_BareLoop => k_is)
    (case iC_BareLoop => k_is)
    (case tC_BareLoop => k_is)
    (case aC_DeskError => k_is)
    (case iC_DeskError => k_is)
    (case tC_DeskError => k_is)
    (case aC_ForeworthError => k_is)
    (case iC_ForeworthError => k_is)
    (case tC_ForeworthError => k_is)
    (case aC_Incomplete => k_is)
    (case iC_Incomplete => k_is)
    (case tC_Incomplete => k_is)
    (case aC_MixedGraphs => k_is)
    (case iC_MixedGraphs => k_is)
    (case tC_MixedGraphs => k_is)
    (case aC_NoEnd => k_is)
    (case iC_NoEnd => k_is)
    (case tC_NoEnd => k_is)
    (case aC_NoWild => k_is)
    (case iC_NoWild => k_is)
    (case tC_NoWild => k_is)
    (case aC_NotOver => k_is)
    (case iC_NotOver => k_is)
    (case tC_NotOver => k_is)
    (case aC_NotStanding => k_is)
    (case iC_NotStanding => k_is)
    (case tC_NotStanding => k_is)
    (case aC_TextError => k_is)
    (case iC_TextError => k_is)
    (case tC_TextError => k_is)
    (case aC_TooLarge => k_is)
    (case iC_TooLarge => k_is)
    (case tC_TooLarge => k_is)
    (case aC_Unreachable => k_is)
    (case iC_Unreachable => k_is)
    (case tC_Unreachable => k_is)
    (case aC_WildProgram => k_is)
    (case iC_WildProgram => k_is)
    (case tC_WildProgram => k_is)
    (case sB_ForeworthError => k_is)
    (case sB_Incomplete => k_is)
    (case kC_Incomplete => k_is)
    (case xC_Incomplete => k_exc)
    (case e1_Incomplete => k_is)
    (case e2_Incomplete => k_is)
    (case e4_Incomplete => k_is)
    (case e5_Incomplete => k_is)
    (case e8_Incomplete => k_is)
    (case s_Incomplete_BadChange => (first | rfl | k_is))
    (case n_Incomplete_BadChange => (first | rfl | decide))
    (case s_Incomplete_BadDoors => (first | rfl | k_is))
    (case n_Incomplete_BadDoors => (first | rfl | decide))
    (case s_Incomplete_BadNode => (first | rfl | k_is))
    (case n_Incomplete_BadNode => (first | rfl | decide))
    (case s_Incomplete_BadOrder => (first | rfl | k_is))
    (case n_Incomplete_BadOrder => (first | rfl | decide))
    (case s_Incomplete_BadRing => (first | rfl | k_is))
    (case n_Incomplete_BadRing => (first | rfl | decide))
    (case s_Incomplete_BadRun => (first | rfl | k_is))
    (case n_Incomplete_BadRun => (first | rfl | decide))
    (case s_Incomplete_BadStart => (first | rfl | k_is))
    (case n_Incomplete_BadStart => (first | rfl | decide))
    (case s_Incomplete_BadStay => (first | rfl | k_is))
    (case n_Incomplete_BadStay => (first | rfl | decide))
    (case s_Incomplete_BadWord => (first | rfl | k_is))
    (case n_Incomplete_BadWord => (first | rfl | decide))
    (case s_Incomplete_BareLoop => (first | rfl | k_is))
    (case n_Incomplete_BareLoop => (first | rfl | decide))
    (case s_Incomplete_DeskError => (first | rfl | k_is))
    (case n_Incomplete_DeskError => (first | rfl | decide))
    (case s_Incomplete_ForeworthError => (first | rfl | k_is))
    (case n_Incomplete_ForeworthError => (first | rfl | decide))
    (case s_Incomplete_MixedGraphs => (first | rfl | k_is))
    (case n_Incomplete_MixedGraphs => (first | rfl | decide))
    (case s_Incomplete_NoEnd => (first | rfl | k_is))
    (case n_Incomplete_NoEnd => (first | rfl | decide))
    (case s_Incomplete_NoWild => (first | rfl | k_is))
    (case n_Incomplete_NoWild => (first | rfl | decide))
    (case s_Incomplete_NotOver => (first | rfl | k_is))
    (case n_Incomplete_NotOver => (first | rfl | decide))
    (case s_Incomplete_NotStanding => (first | rfl | k_is))
    (case n_Incomplete_NotStanding => (first | rfl | decide))
    (case s_Incomplete_TextError => (first | rfl | k_is))
    (case n_Incomplete_TextError => (first | rfl | decide))
    (case s_Incomplete_TooLarge => (first | rfl | k_is))
    (case n_Incomplete_TooLarge => (first | rfl | decide))
    (case s_Incomplete_Unreachable => (first | rfl | k_is))
    (case n_Incomplete_Unreachable => (first | rfl | decide))
    (case s_Incomplete_ValueError => (first | rfl | k_is))
    (case s_Incomplete_WildProgram => (first | rfl | k_is))
    (case n_Incomplete_WildProgram => (first | rfl | decide))
    (case e6 => k_is)
    (case e7 => k_is)
