import PyProof.Rows.All
import Wide.All
import OpenK.AllK
import Wide.FinOn
import HandS.ForMost
import HandS.ForExc
import HandS.Wide
import HandS.IsInst
import HandS.Conv
import HandS.Style
import HandS.ExcCtx
import HandS.HotCalls
import HandS.ExcIs
import KE.KExcIs
import HandS.Ends
import HandS.EndBits
import HandS.ExcInit
import HandS.Nested
import HandS.FStr
import HandS.ClsMeth
import KE.KExcSuper
import KE.KSuper
import KE.OsRunLaw
import PySem.Challenge.RW_foreworth_k70_errors_by_hand
set_option Elab.async false
set_option linter.all false
set_option maxRecDepth 100000
set_option maxHeartbeats 4100000
/-! Values as plain data over the hand layer: what a def computes is a function on data; lists in the making are owned by a slot. -/
namespace Mv
open PySem L2

/-- plain data -/
inductive D where
  | non | bl (b : Bool) | int (i : Int) | str (x : Str)
  | lst (xs : List D) | tup (xs : List D)
  | rdl (xs : List D)
  | ins (C : Addr) (fs : List (Str × D))
  | exo (a : Addr)
  | exd (a dd : Addr) (fs : List (Str × D))
instance : Inhabited D := ⟨.non⟩

/-- H' holds all that H tracks -/
def Le (H H' : Hp) : Prop := ∀ a o, H a = some o → H' a = some o
theorem Le.refl (H : Hp) : Le H H := fun _ _ h => h
theorem Le.trans {H H1 H2 : Hp} (a : Le H H1) (b : Le H1 H2) : Le H H2 := fun x o h => b x o (a x o h)
theorem Le.new {H : Hp} {p : Addr} {o : HO} (h : H p = none) : Le H (upd H p o) := fun a u e => by
  rw [upd_ne (ne_of_none e h)]; exact e
theorem Le.mut {H H' : Hp} {p : Addr} {o : HO} (e : Le H H') (h : H p = none) : Le H (upd H' p o) := fun a u ha => by
  rw [upd_ne (ne_of_none ha h)]; exact e a u ha
theorem Le.back {H H' : Hp} {p : Addr} (e : Le H H') (h : H' p = none) : H p = none := by
  cases h1 : H p with
  | none => rfl
  | some o => rw [e p o h1] at h; cases h
theorem Le.ne {H H' : Hp} {p : Addr} (e : Le H H') (h : H p ≠ none) : H' p ≠ none := by
  intro z; exact h (e.back z)
theorem Le.sqL {K : PySem.W.Frag} {H H' : Hp} {a : Addr} {xs : List V} (e : Le H H') (h : SqL K H a xs) : SqL K H' a xs := Same.seq e h

mutual
/-- v stands for d, read in B -/
def Rep (K : PySem.W.Frag) (B : Hp) : D → V → Prop
  | .non, v => v = .non
  | .bl b, v => v = .bl b
  | .int i, v => v = .int i
  | .str x, v => v = .str x
  | .lst ds, v => ∃ a xs, v = .ref a ∧ B a = some (.lst xs) ∧ Reps K B ds xs
  | .tup ds, v => ∃ a xs, v = .ref a ∧ B a = some (.tup xs) ∧ Reps K B ds xs
  | .rdl ds, v => ∃ a xs, v = .ref a ∧ SqL K B a xs ∧ Reps K B ds xs
  | .ins C fs, v => ∃ a dx gs, v = .ref a ∧ B a = some (.ins C dx gs) ∧ RepF K B fs gs
  | .exo a, v => v = .ref a
  | .exd a dd fs, v => v = .ref a ∧ ∃ gs, B dd = some (.xd gs) ∧ RepF K B fs gs
def Reps (K : PySem.W.Frag) (B : Hp) : List D → List V → Prop
  | [], xs => xs = []
  | d :: ds, xs => ∃ v vs, xs = v :: vs ∧ Rep K B d v ∧ Reps K B ds vs
def RepF (K : PySem.W.Frag) (B : Hp) : List (Str × D) → List (Str × V) → Prop
  | [], xs => xs = []
  | (n, d) :: ds, xs => ∃ v vs, xs = (n, v) :: vs ∧ Rep K B d v ∧ RepF K B ds vs
end
section
variable {K : PySem.W.Frag} {B B' : Hp}
mutual
theorem Rep.mono (e : Le B B') : ∀ (d : D) (v : V), Rep K B d v → Rep K B' d v
  | .non, v, h => by rw [Rep] at *; exact h
  | .bl b, v, h => by rw [Rep] at *; exact h
  | .int i, v, h => by rw [Rep] at *; exact h
  | .str x, v, h => by rw [Rep] at *; exact h
  | .lst ds, v, h => by rw [Rep] at *; obtain ⟨a, xs, h1, h2, h3⟩ := h; exact ⟨a, xs, h1, e _ _ h2, Reps.mono e ds xs h3⟩
  | .tup ds, v, h => by rw [Rep] at *; obtain ⟨a, xs, h1, h2, h3⟩ := h; exact ⟨a, xs, h1, e _ _ h2, Reps.mono e ds xs h3⟩
  | .rdl ds, v, h => by rw [Rep] at *; obtain ⟨a, xs, h1, h2, h3⟩ := h; exact ⟨a, xs, h1, e.sqL h2, Reps.mono e ds xs h3⟩
  | .ins C fs, v, h => by rw [Rep] at *; obtain ⟨a, dx, gs, h1, h2, h3⟩ := h; exact ⟨a, dx, gs, h1, e _ _ h2, RepF.mono e fs gs h3⟩
  | .exo a, v, h => by rw [Rep] at *; exact h
  | .exd a dd fs, v, h => by rw [Rep] at *; obtain ⟨h1, gs, h2, h3⟩ := h; exact ⟨h1, gs, e _ _ h2, RepF.mono e fs gs h3⟩
theorem Reps.mono (e : Le B B') : ∀ (ds : List D) (vs : List V), Reps K B ds vs → Reps K B' ds vs
  | [], xs, h => by rw [Reps] at *; exact h
  | d :: ds, xs, h => by rw [Reps] at *; obtain ⟨v, vs, h1, h2, h3⟩ := h; exact ⟨v, vs, h1, Rep.mono e d v h2, Reps.mono e ds vs h3⟩
theorem RepF.mono (e : Le B B') : ∀ (ds : List (Str × D)) (vs : List (Str × V)), RepF K B ds vs → RepF K B' ds vs
  | [], xs, h => by rw [RepF] at *; exact h
  | (n, d) :: ds, xs, h => by rw [RepF] at *; obtain ⟨v, vs, h1, h2, h3⟩ := h; exact ⟨v, vs, h1, Rep.mono e d v h2, RepF.mono e ds vs h3⟩
end
theorem reps_nil : Reps K B [] [] := by rw [Reps]
theorem reps_cons {d : D} {ds : List D} {v : V} {vs : List V} (h : Rep K B d v) (hs : Reps K B ds vs) : Reps K B (d :: ds) (v :: vs) := by
  rw [Reps]; exact ⟨v, vs, rfl, h, hs⟩
theorem Reps.length : ∀ {ds : List D} {vs : List V}, Reps K B ds vs → ds.length = vs.length
  | [], vs, h => by rw [Reps] at h; rw [h]; rfl
  | d :: ds, vs, h => by
    rw [Reps] at h; obtain ⟨v, ws, rfl, _, h3⟩ := h
    rw [List.length_cons, List.length_cons, Reps.length h3]
theorem Reps.get : ∀ {ds : List D} {vs : List V} {i : Nat} {d : D}, Reps K B ds vs → ds[i]? = some d → ∃ v, vs[i]? = some v ∧ Rep K B d v
  | [], vs, i, d, h, e => by simp at e
  | d0 :: ds, vs, 0, d, h, e => by
    rw [Reps] at h; obtain ⟨v, ws, rfl, h2, _⟩ := h
    simp at e; subst e; exact ⟨v, by simp, h2⟩
  | d0 :: ds, vs, i + 1, d, h, e => by
    rw [Reps] at h; obtain ⟨v, ws, rfl, _, h3⟩ := h
    obtain ⟨w, e1, e2⟩ := Reps.get (i := i) (d := d) h3 (by simpa using e)
    exact ⟨w, by simpa using e1, e2⟩
theorem Reps.append : ∀ {ds es : List D} {vs ws : List V}, Reps K B ds vs → Reps K B es ws → Reps K B (ds ++ es) (vs ++ ws)
  | [], es, vs, ws, h, h' => by rw [Reps] at h; subst h; exact h'
  | d :: ds, es, vs, ws, h, h' => by
    rw [Reps] at h; obtain ⟨v, us, rfl, h2, h3⟩ := h
    exact reps_cons h2 (Reps.append h3 h')
theorem Reps.take : ∀ {ds : List D} {vs : List V} (n : Nat), Reps K B ds vs → Reps K B (ds.take n) (vs.take n)
  | _, _, 0, _ => by rw [List.take_zero, List.take_zero]; exact reps_nil
  | [], vs, n + 1, h => by rw [Reps] at h; subst h; exact reps_nil
  | d :: ds, vs, n + 1, h => by
    rw [Reps] at h; obtain ⟨v, us, rfl, h2, h3⟩ := h
    exact reps_cons h2 (Reps.take n h3)
theorem Reps.drop : ∀ {ds : List D} {vs : List V} (n : Nat), Reps K B ds vs → Reps K B (ds.drop n) (vs.drop n)
  | _, _, 0, h => h
  | [], vs, n + 1, h => by rw [Reps] at h; subst h; exact reps_nil
  | d :: ds, vs, n + 1, h => by
    rw [Reps] at h; obtain ⟨v, us, rfl, h2, h3⟩ := h
    exact Reps.drop n h3
theorem Reps.set {d : D} {v : V} (h' : Rep K B d v) : ∀ {ds : List D} {vs : List V} (i : Nat), Reps K B ds vs → Reps K B (ds.set i d) (vs.set i v)
  | [], vs, i, h => by rw [Reps] at h; subst h; exact reps_nil
  | d0 :: ds, vs, 0, h => by
    rw [Reps] at h; obtain ⟨v0, us, rfl, h2, h3⟩ := h
    exact reps_cons h' h3
  | d0 :: ds, vs, i + 1, h => by
    rw [Reps] at h; obtain ⟨v0, us, rfl, h2, h3⟩ := h
    exact reps_cons h2 (Reps.set h' i h3)
theorem Reps.rep {ds : List D} {vs : List V} (h : Reps K B ds vs) : ∀ k : Nat, Reps K B (List.replicate k ds).flatten (List.replicate k vs).flatten
  | 0 => by rw [List.replicate_zero, List.replicate_zero]; exact reps_nil
  | k + 1 => by
    rw [List.replicate_succ,
      List.replicate_succ, List.flatten_cons, List.flatten_cons]
    exact h.append (Reps.rep h k)
theorem Reps.reverse : ∀ {ds : List D} {vs : List V}, Reps K B ds vs → Reps K B ds.reverse vs.reverse
  | [], vs, h => by rw [Reps] at h; subst h; exact reps_nil
  | d :: ds, vs, h => by
    rw [Reps] at h; obtain ⟨v, us, rfl, h2, h3⟩ := h
    rw [List.reverse_cons,
      List.reverse_cons]
    exact (Reps.reverse h3).append (reps_cons h2 reps_nil)
theorem rep_int {i : Int} : Rep K B (.int i) (.int i) := by rw [Rep]
theorem rep_bl {b : Bool} : Rep K B (.bl b) (.bl b) := by rw [Rep]
theorem rep_str {x : Str} : Rep K B (.str x) (.str x) := by rw [Rep]
theorem rep_non : Rep K B .non .non := by rw [Rep]
theorem reps_ints : ∀ {ns : List Int} {vs : List V}, Reps K B (ns.map D.int) vs → vs = ns.map V.int
  | [], vs, h => by rw [List.map_nil, Reps] at h; rw [h]; rfl
  | n :: ns, vs, h => by
    rw [List.map_cons, Reps] at h; obtain ⟨v, us, rfl, h2, h3⟩ := h
    rw [Rep] at h2; rw [h2, reps_ints h3]; rfl
theorem reps_of_ints : ∀ (ns : List Int), Reps K B (ns.map D.int) (ns.map V.int)
  | [] => reps_nil
  | n :: ns => reps_cons rep_int (reps_of_ints ns)
end

/-- data that is no object -/
def flat : D → Bool
  | .non => true | .bl _ => true | .int _ => true | .str _ => true | .exo _ => true | _ => false
theorem Rep.flat {K : PySem.W.Frag} {B B' : Hp} {d : D} {v : V} (f : flat d = true) (h : Rep K B d v) : Rep K B' d v := by
  cases d <;> first | (rw [Rep] at *; exact h) | (cases f)

/-! ### ownership -/
inductive All3 {α β γ : Type} (R : α → β → γ → Prop) : List α → List β → List γ → Prop where
  | nil : All3 R [] [] []
  | cons {a : α} {b : β} {c : γ} {as : List α} {bs : List β} {cs : List γ} : R a b c → All3 R as bs cs → All3 R (a :: as) (b :: bs) (c :: cs)
section
variable {α β γ : Type} {R S : α → β → γ → Prop}
theorem All3.imp {as : List α} {bs : List β} {cs : List γ} (h : All3 R as bs cs) (k : ∀ a b c, c ∈ cs → R a b c → S a b c) : All3 S as bs cs := by
  induction h with
  | nil => exact .nil
  | cons r t ih => exact .cons (k _ _ _ List.mem_cons_self r) (ih fun a b c hc => k a b c (List.mem_cons_of_mem _ hc))
theorem All3.len1 {as : List α} {bs : List β} {cs : List γ} (h : All3 R as bs cs) : as.length = bs.length := by
  induction h with
  | nil => rfl
  | cons r t ih => rw [List.length_cons, List.length_cons, ih]
theorem All3.len2 {as : List α} {bs : List β} {cs : List γ} (h : All3 R as bs cs) : as.length = cs.length := by
  induction h with
  | nil => rfl
  | cons r t ih => rw [List.length_cons, List.length_cons, ih]
theorem All3.get {as : List α} {bs : List β} {cs : List γ} (h : All3 R as bs cs) : ∀ {i : Nat} {a : α}, as[i]? = some a → ∃ b c, bs[i]? = some b ∧ cs[i]? = some c ∧ R a b c := by
  induction h with
  | nil =>
    intro i a e; simp at e
  | cons r t ih =>
    intro i a e
    cases i with
    | zero => simp at e; subst e; exact ⟨_, _, by simp, by simp, r⟩
    | succ i =>
      obtain ⟨b, c, h1, h2, h3⟩ := ih (i := i) (a := a) (by simpa using e)
      exact ⟨b, c, by simpa using h1, by simpa using h2, h3⟩
theorem All3.set {as : List α} {bs : List β} {cs : List γ} (h : All3 R as bs cs) {a : α} {b : β} {c : γ} (r : R a b c) : ∀ i : Nat, All3 R (as.set i a) (bs.set i b) (cs.set i c) := by
  induction h with
  | nil => intro i; exact .nil
  | cons r0 t ih =>
    intro i
    cases i with
    | zero => exact .cons r t
    | succ i => exact .cons r0 (ih i)
theorem All3.append {as as' : List α} {bs bs' : List β} {cs cs' : List γ} (h : All3 R as bs cs) (h' : All3 R as' bs' cs') : All3 R (as ++ as') (bs ++ bs') (cs ++ cs') := by
  induction h with
  | nil => exact h'
  | cons r t ih => exact .cons r ih
end

/-- d is owned n levels deep: the cells fp are the owner's alone; below, it is read in B -/
def Ow (K : PySem.W.Frag) (B H : Hp) : Nat → D → V → List Addr → Prop
  | 0, d, v, fp => fp = [] ∧ Rep K B d v
  | n + 1, d, v, fp => ∃ ds p xs fps, d = .lst ds ∧ v = .ref p ∧ H p = some (.lst xs) ∧ fp = p :: fps.flatten ∧ All3 (Ow K B H n) ds xs fps
/-- the same, borrowed -/
def Bw (K : PySem.W.Frag) (B H : Hp) (n : Nat) (d : D) (v : V) : Prop := ∃ fp, Ow K B H n d v fp
section
variable {K : PySem.W.Frag} {B B' H H' : Hp}
theorem mem_fl {a : Addr} {c : List Addr} {cs : List (List Addr)} (h : c ∈ cs) (ha : a ∈ c) : a ∈ cs.flatten := List.mem_flatten.mpr ⟨c, h, ha⟩
theorem Ow.at : ∀ {n : Nat} {d : D} {v : V} {fp : List Addr}, Ow K B H n d v fp → ∀ a ∈ fp, ∃ xs, H a = some (.lst xs)
  | 0, d, v, fp, h, a, ha => by obtain ⟨rfl, _⟩ := h; cases ha
  | n + 1, d, v, fp, h, a, ha => by
    obtain ⟨ds, p, xs, fps, rfl, rfl, hp, rfl, al⟩ := h
    rcases List.mem_cons.mp ha with e | e
    · subst e; exact ⟨_, hp⟩
    · obtain ⟨c, hc, hac⟩ := List.mem_flatten.mp e
      have : ∀ {as : List D} {bs : List V} {cs : List (List Addr)}, All3 (Ow K B H n) as bs cs → c ∈ cs → ∃ xs, H a = some (.lst xs) := fun h => by
        induction h with
        | nil => intro z; cases z
        | cons r t ih =>
          intro z
          rcases List.mem_cons.mp z with e | e
          · subst e; exact Ow.at r a hac
          · exact ih e
      exact this al hc
theorem Ow.mono (eB : Le B B') : ∀ {n : Nat} {d : D} {v : V} {fp : List Addr}, Ow K B H n d v fp → (∀ a ∈ fp, H' a = H a) → Ow K B' H' n d v fp
  | 0, d, v, fp, h, _ => ⟨h.1, Rep.mono eB _ _ h.2⟩
  | n + 1, d, v, fp, h, k => by
    obtain ⟨ds, p, xs, fps, rfl, rfl, hp, rfl, al⟩ := h
    refine ⟨ds, p, xs, fps, rfl, rfl, ?_, rfl, al.imp fun a b c hc r => Ow.mono eB r fun x hx => k x (List.mem_cons_of_mem _ (mem_fl hc hx))⟩
    rw [k p List.mem_cons_self]; exact hp
theorem Ow.le (eB : Le B B') (eH : Le H H') {n : Nat} {d : D} {v : V} {fp : List Addr} (h : Ow K B H n d v fp) : Ow K B' H' n d v fp :=
  h.mono eB fun a ha => by obtain ⟨xs, e⟩ := h.at a ha; rw [e, eH _ _ e]
theorem Bw.le (eB : Le B B') (eH : Le H H') {n : Nat} {d : D} {v : V} (h : Bw K B H n d v) : Bw K B' H' n d v := let ⟨fp, q⟩ := h; ⟨fp, q.le eB eH⟩
theorem Ow.bw {n : Nat} {d : D} {v : V} {fp : List Addr} (h : Ow K B H n d v fp) : Bw K B H n d v := ⟨fp, h⟩
theorem Bw.rep {d : D} {v : V} (h : Bw K B H 0 d v) : Rep K B d v := let ⟨_, q⟩ := h; q.2
theorem bw0 {d : D} {v : V} (h : Rep K B d v) : Bw K B H 0 d v := ⟨[], rfl, h⟩
theorem all_reps (eBH : Le B H) {n : Nat} (ih : ∀ {d : D} {v : V} {fp : List Addr}, Ow K B H n d v fp → Rep K H d v) {ds : List D} {xs : List V} {fps : List (List Addr)} (h : All3 (Ow K B H n) ds xs fps) : Reps K H ds xs := by
  induction h with
  | nil => exact reps_nil
  | cons r t ih2 => exact reps_cons (ih r) ih2
/-- a borrowed thing is read in the heap as it stands -/
theorem Ow.here (eBH : Le B H) : ∀ {n : Nat} {d : D} {v : V} {fp : List Addr}, Ow K B H n d v fp → Rep K H d v
  | 0, d, v, fp, h => Rep.mono eBH _ _ h.2
  | n + 1, d, v, fp, h => by
    obtain ⟨ds, p, xs, fps, rfl, rfl, hp, rfl, al⟩ := h
    rw [Rep]
    exact ⟨p, xs, rfl, hp, all_reps eBH (fun q => Ow.here eBH q) al⟩
theorem Bw.here (eBH : Le B H) {n : Nat} {d : D} {v : V} (h : Bw K B H n d v) : Rep K H d v := let ⟨_, q⟩ := h; q.here eBH
/-- a list, borrowed: its cell and its items -/
theorem Bw.list (eBH : Le B H) {n : Nat} {ds : List D} {v : V} (h : Bw K B H n (.lst ds) v) : ∃ p xs, v = .ref p ∧ H p = some (.lst xs) ∧ ds.length = xs.length ∧ ∀ (i : Nat) d, ds[i]? = some d → ∃ x, xs[i]? = some x ∧ Bw K B H (n - 1) d x := by
  obtain ⟨fp, h⟩ := h
  cases n with
  | zero =>
    obtain ⟨_, h⟩ := h
    rw [Rep] at h
    obtain ⟨a, xs, h1, h2, h3⟩ := h
    exact ⟨a, xs, h1, eBH _ _ h2, h3.length, fun i d e => let ⟨x, q1, q2⟩ := h3.get e; ⟨x, q1, bw0 q2⟩⟩
  | succ n =>
    obtain ⟨ds', p, xs, fps, e, h1, hp, _, al⟩ := h
    cases e
    exact ⟨p, xs, h1, hp, al.len1, fun i d e => let ⟨x, c, q1, _, q3⟩ := al.get e; ⟨x, q1, q3.bw⟩⟩
theorem Bw.flat {n : Nat} {d : D} {v : V} (f : flat d = true) (h : Bw K B H n d v) : Rep K B' d v := by
  obtain ⟨fp, h⟩ := h
  cases n with
  | zero => exact h.2.flat f
  | succ n =>
    obtain ⟨ds', p, xs, fps, e, _⟩ := h
    subst e; cases f
end

/-! ### slots, states -/
inductive Sl where
  | un
  | v (n : Nat) (d : D)
  | o (w : V) (n : Nat) (d : D)
abbrev En := List Sl
def slotOk (K : PySem.W.Frag) (B H : Hp) : Sl → Option V → List Addr → Prop
  | .un, _, fp => fp = []
  | .v n d, o, fp => ∃ v, o = some v ∧ Ow K B H n d v fp
  | .o w n d, o, fp => o = some w ∧ Ow K B H n d w fp
/-- from (B, H) to (B', H'): both grow, the base only by what is new -/
structure Stp (B H B' H' : Hp) : Prop where
  bb : Le B B'
  hh : Le H H'
  bh : Le B' H'
  dj : ∀ a, B a = none → (∃ xs, H a = some (.lst xs)) → B' a = none
theorem Stp.refl {B H : Hp} (h : Le B H) : Stp B H B H := ⟨Le.refl _, Le.refl _, h, fun _ e _ => e⟩
theorem Stp.trans {B H B1 H1 B2 H2 : Hp} (a : Stp B H B1 H1) (b : Stp B1 H1 B2 H2) : Stp B H B2 H2 :=
  ⟨a.bb.trans b.bb, a.hh.trans b.hh, b.bh, fun x e n => b.dj x (a.dj x e n) (n.imp fun xs z => a.hh _ _ z)⟩
/-- the state ahead of a pure expression -/
structure Pi (K : PySem.W.Frag) (B : Hp) (σ : St) (H : Hp) (ss : En) (fps : List (List Addr)) : Prop where
  bh : Le B H
  al : All3 (slotOk K B H) ss σ fps
  nd : fps.flatten.Nodup
  fr : ∀ a ∈ fps.flatten, B a = none
section
variable {K : PySem.W.Frag} {B B' H H' : Hp} {σ : St} {ss : En} {fps : List (List Addr)}
theorem slotOk.at {s : Sl} {o : Option V} {fp : List Addr} (h : slotOk K B H s o fp) : ∀ a ∈ fp, ∃ xs, H a = some (.lst xs) := by
  cases s with
  | un => intro a ha; rw [show fp = [] from h] at ha; cases ha
  | v n d => obtain ⟨v, _, q⟩ := h; exact q.at
  | o w n d => exact h.2.at
theorem slotOk.mono (eB : Le B B') {s : Sl} {o : Option V} {fp : List Addr} (h : slotOk K B H s o fp) (k : ∀ a ∈ fp, H' a = H a) : slotOk K B' H' s o fp := by
  cases s with
  | un => exact h
  | v n d => obtain ⟨v, e, q⟩ := h; exact ⟨v, e, q.mono eB k⟩
  | o w n d => exact ⟨h.1, h.2.mono eB k⟩
theorem Pi.here (h : Pi K B σ H ss fps) : ∀ a ∈ fps.flatten, ∃ xs, H a = some (.lst xs) := fun a ha => by
  obtain ⟨c, hc, hac⟩ := List.mem_flatten.mp ha
  have : ∀ {as : En} {bs : St} {cs : List (List Addr)}, All3 (slotOk K B H) as bs cs → c ∈ cs → ∃ xs, H a = some (.lst xs) := fun h => by
    induction h with
    | nil => intro z; cases z
    | cons r t ih =>
      intro z
      rcases List.mem_cons.mp z with e | e
      · subst e; exact r.at a hac
      · exact ih e
  exact this h.al hc
theorem Pi.step (h : Pi K B σ H ss fps) (s : Stp B H B' H') : Pi K B' σ H' ss fps := by
  have k : ∀ a ∈ fps.flatten, H' a = H a := fun a ha => by
    obtain ⟨xs, e⟩ := h.here a ha; rw [e, s.hh _ _ e]
  refine ⟨s.bh, h.al.imp fun a b c hc r => r.mono s.bb fun x hx => k x (mem_fl hc hx), h.nd, fun a ha => s.dj a (h.fr a ha) (h.here a ha)⟩
theorem Pi.get (h : Pi K B σ H ss fps) {i n : Nat} {d : D} (e : ss[i]? = some (.v n d)) : ∃ v, σ[i]? = some (some v) ∧ Bw K B H n d v := by
  obtain ⟨o, c, h1, h2, v, h3, h4⟩ := h.al.get e
  subst h3
  exact ⟨v, h1, h4.bw⟩
end

/-- what a fresh result is: owned, its cells new against H0 -/
structure New (K : PySem.W.Frag) (H0 B H : Hp) (n : Nat) (d : D) (v : V) (fp : List Addr) : Prop where
  ow : Ow K B H n d v fp
  nd : fp.Nodup
  fr : ∀ a ∈ fp, B a = none ∧ H0 a = none

/-! ### freezing -/
def frzH (B H : Hp) (fp : List Addr) : Hp := fun a => if a ∈ fp then H a else B a
section
variable {K : PySem.W.Frag} {B B' H H0 H' : Hp}
theorem frz_le {fp : List Addr} (h : ∀ a ∈ fp, B a = none) : Le B (frzH B H fp) := fun a o e => by
  unfold frzH
  by_cases ha : a ∈ fp
  · rw [h a ha] at e; cases e
  · rw [if_neg ha]; exact e
theorem frz_in {fp : List Addr} (h : Le B H) : Le (frzH B H fp) H := fun a o e => by
  unfold frzH at e
  by_cases ha : a ∈ fp
  · rw [if_pos ha] at e; exact e
  · rw [if_neg ha] at e; exact h a o e
theorem frz_rep : ∀ {n : Nat} {d : D} {v : V} {fp : List Addr} (G : Hp), Le B G → (∀ a ∈ fp, G a = H a) → Ow K B H n d v fp → Rep K G d v
  | 0, d, v, fp, G, e, _, h => Rep.mono e _ _ h.2
  | n + 1, d, v, fp, G, e, k, h => by
    obtain ⟨ds, p, xs, fps, rfl, rfl, hp, rfl, al⟩ := h
    rw [Rep]
    refine ⟨p, xs, rfl, by rw [k p List.mem_cons_self]; exact hp, ?_⟩
    have : ∀ {as : List D} {bs : List V} {cs : List (List Addr)}, All3 (Ow K B H n) as bs cs → (∀ c ∈ cs, ∀ a ∈ c, G a = H a) → Reps K G as bs := fun h => by
      induction h with
      | nil => intro _; exact reps_nil
      | cons r t ih => intro z; exact reps_cons (frz_rep G e (z _ List.mem_cons_self) r) (ih fun c hc => z c (List.mem_cons_of_mem _ hc))
    exact this al fun c hc a ha => k a (List.mem_cons_of_mem _ (mem_fl hc ha))
theorem frz_at {fp : List Addr} {a : Addr} (ha : a ∈ fp) : frzH B H fp a = H a := by unfold frzH; rw [if_pos ha]
theorem frz_out {fp : List Addr} {a : Addr} (ha : a ∉ fp) : frzH B H fp a = B a := by unfold frzH; rw [if_neg ha]
/-- a fresh result becomes part of the base -/
theorem New.freeze {n : Nat} {d : D} {v : V} {fp : List Addr} (h : New K H0 B H n d v fp) (e : Le B H) :
    ∃ B', Le B B' ∧ Le B' H ∧ Rep K B' d v ∧ ∀ a, B a = none → (∃ xs, H0 a = some (.lst xs)) → B' a = none :=
  ⟨frzH B H fp, frz_le fun a ha => (h.fr a ha).1, frz_in e, frz_rep _ (frz_le fun a ha => (h.fr a ha).1) (fun a ha => frz_at ha) h.ow, fun a e1 e2 => by
    rw [frz_out fun ha => by obtain ⟨xs, z⟩ := e2; rw [(h.fr a ha).2] at z; cases z]; exact e1⟩
end

/-! ### what is said of an exception -/
structure Exo where
  C : Addr
  fs : Option (List (Str × D))
def ExR (K : PySem.W.Frag) (B H : Hp) (e : Exo) (cls : Value) (d : Option Addr) : Prop :=
  cls = .ref e.C ∧ match e.fs with
    | none => d = none
    | some fs => ∃ dd gs, d = some dd ∧ H dd = some (.xd gs) ∧ RepF K B fs gs

inductive Res (α : Type) where
  | ok (a : α) | exc (e : Exo) | no
inductive SO where
  | nx (ss : En) | rt (n : Nat) (d : D) | bk (ss : En) | ct (ss : En) | exc (e : Exo) (ss : En) | ru (d : D) (ss : En) | no
namespace Res
def bind {α β : Type} (r : Res α) (f : α → Res β) : Res β := match r with
  | ok a => f a
  | exc e => exc e
  | no => no
end Res
abbrev EB := En → Res (Nat × D)
abbrev ET := En → Res Bool
abbrev EA := En → Res (List D)
abbrev SM := En → SO

/-- a pure expression's reading: a borrowed value -/
def tB (K : PySem.W.Frag) (W : WX) (f : EB) : TE := fun σ H Q => ∃ B ss fps, Pi K B σ H ss fps ∧ match f ss with
  | .ok (n, d) => ∀ B' v H', Stp B H B' H' → Bw K B' H' n d v → Q v H'
  | .exc e => ∀ B' cls dd H', Stp B H B' H' → ExR K B' H' e cls dd → W cls dd σ H'
  | .no => False
/-- a fresh value -/
def tM (K : PySem.W.Frag) (W : WX) (f : EB) : TE := fun σ H Q => ∃ B ss fps, Pi K B σ H ss fps ∧ match f ss with
  | .ok (n, d) => ∀ B' v H' fp, Stp B H B' H' → New K H B' H' n d v fp → Q v H'
  | .exc e => ∀ B' cls dd H', Stp B H B' H' → ExR K B' H' e cls dd → W cls dd σ H'
  | .no => False
/-- a test -/
def tT (K : PySem.W.Frag) (W : WX) (f : ET) : TT := fun σ H Q => ∃ B ss fps, Pi K B σ H ss fps ∧ match f ss with
  | .ok b => ∀ B' H', Stp B H B' H' → Q b H'
  | .exc e => ∀ B' cls dd H', Stp B H B' H' → ExR K B' H' e cls dd → W cls dd σ H'
  | .no => False
/-- arguments, each part of the base -/
def tA (K : PySem.W.Frag) (W : WX) (f : EA) : TA := fun σ H Q => ∃ B ss fps, Pi K B σ H ss fps ∧ match f ss with
  | .ok ds => ∀ B' vs H', Stp B H B' H' → Reps K B' ds vs → Q vs H'
  | .exc e => ∀ B' cls dd H', Stp B H B' H' → ExR K B' H' e cls dd → W cls dd σ H'
  | .no => False
/-- arguments, borrowed: read in the heap -/
def tAh (K : PySem.W.Frag) (W : WX) (f : EA) : TA := fun σ H Q => ∃ B ss fps, Pi K B σ H ss fps ∧ match f ss with
  | .ok ds => ∀ B' vs H', Stp B H B' H' → Reps K H' ds vs → Q vs H'
  | .exc e => ∀ B' cls dd H', Stp B H B' H' → ExR K B' H' e cls dd → W cls dd σ H'
  | .no => False

/-- the state of a def's body: entered at (B0, H0) -/
structure SI (K : PySem.W.Frag) (B0 H0 B : Hp) (σ : St) (H : Hp) (ss : En) (fps : List (List Addr)) : Prop where
  pi : Pi K B σ H ss fps
  st : Stp B0 H0 B H
  fr : ∀ a ∈ fps.flatten, H0 a = none
section
variable {K : PySem.W.Frag} {B0 H0 B B' H H' : Hp} {σ : St} {ss : En} {fps : List (List Addr)}
theorem SI.step (h : SI K B0 H0 B σ H ss fps) (s : Stp B H B' H') : SI K B0 H0 B' σ H' ss fps := ⟨h.pi.step s, h.st.trans s, h.fr⟩
end
/-- a statement's reading -/
def tS (K : PySem.W.Frag) (W : WX) (F : SM) : TS := fun E σ H => ∃ B0 H0 B ss fps, SI K B0 H0 B σ H ss fps ∧ match F ss with
  | .nx ss' => ∀ B' σ' H' fps', SI K B0 H0 B' σ' H' ss' fps' → E.nx σ' H'
  | .bk ss' => ∀ B' σ' H' fps', SI K B0 H0 B' σ' H' ss' fps' → E.bk σ' H'
  | .ct ss' => ∀ B' σ' H' fps', SI K B0 H0 B' σ' H' ss' fps' → E.ct σ' H'
  | .rt n d => ∀ B' v H' fp, Stp B0 H0 B' H' → New K H0 B' H' n d v fp → E.rt v H'
  | .exc e ss' => ∀ B' σ' H' fps' cls dd, SI K B0 H0 B' σ' H' ss' fps' → ExR K B' H' e cls dd → W cls dd σ' H'
  | .ru d ss' => ∀ B' v σ' H' fps', SI K B0 H0 B' σ' H' ss' fps' → Rep K B' d v → E.rt v H'
  | .no => False

/-! ### weakening -/
theorem pe_w {X : Cx} {e : Expr} {t u : TE} (h : PE X e t) (k : ∀ σ H Q, u σ H Q → t σ H Q) : PE X e u := ⟨fun pins s σ H Q I q => h.run pins s σ H Q I (k σ H Q q)⟩
theorem pt_w {X : Cx} {e : Expr} {t u : TT} (h : PT X e t) (k : ∀ σ H Q, u σ H Q → t σ H Q) : PT X e u := ⟨fun pins s σ H Q I q => h.run pins s σ H Q I (k σ H Q q)⟩
theorem pw_w {X : Cx} {e : Expr} {t u : TT} (h : PW X e t) (k : ∀ σ H Q, u σ H Q → t σ H Q) : PW X e u := ⟨fun wh pins s σ H Q I q => h.run wh pins s σ H Q I (k σ H Q q)⟩
theorem pa_w {X : Cx} {es : List Expr} {t u : TA} (h : PA X es t) (k : ∀ σ H Q, u σ H Q → t σ H Q) : PA X es u := ⟨fun pos pins s σ H Q I q => h.run pos pins s σ H Q I (k σ H Q q)⟩
theorem ps_w {X : Cx} {st : Stmt} {t u : TS} (h : PS X st t) (k : ∀ D σ H, u D σ H → t D σ H) : PS X st u := ⟨fun pins s σ H D I q => h.run pins s σ H D I (k D σ H q)⟩
theorem pss_w {X : Cx} {st : List Stmt} {t u : TS} (h : PSs X st t) (k : ∀ D σ H, u D σ H → t D σ H) : PSs X st u := ⟨fun pins s σ H D I q => h.run pins s σ H D I (k D σ H q)⟩
end Mv

namespace Mv
open PySem L2

section
variable {K : PySem.W.Frag} {W : WX} {σ : L2.St} {H : Hp} {Q : VK}

/-! ### the mirrors of expressions -/
def frzE (f : EB) : EB := fun ss => match f ss with
  | .ok (_, d) => .ok (0, d)
  | .exc e => .exc e
  | .no => .no
def own0 (f : EB) : EB := fun ss => match f ss with
  | .ok (0, d) => .ok (0, d)
  | .ok (_, _) => .no
  | .exc e => .exc e
  | .no => .no
def eVar (i : Nat) : EB := fun ss => match ss[i]? with
  | some (.v n d) => .ok (n, d)
  | some (.o _ n d) => .ok (n, d)
  | _ => .no
def eC (d : D) : EB := fun _ => .ok (0, d)
def eOp (g : D → D → Option D) (f1 f2 : EB) : EB := fun ss => match f1 ss with
  | .ok (_, a) => (match f2 ss with
    | .ok (_, b) => (match g a b with
      | some d => .ok (0, d)
      | none => .no)
    | .exc e => .exc e
    | .no => .no)
  | .exc e => .exc e
  | .no => .no
def eUn (g : D → Option D) (f1 : EB) : EB := fun ss => match f1 ss with
  | .ok (_, a) => (match g a with
      | some d => .ok (0, d)
      | none => .no)
  | .exc e => .exc e
  | .no => .no
def eTest (f : EB) : ET := fun ss => match f ss with
  | .ok (_, .bl b) => .ok b
  | .ok (_, _) => .no
  | .exc e => .exc e
  | .no => .no
def aNil : EA := fun _ => .ok []
def aCons (f : EB) (g : EA) : EA := fun ss => match f ss with
  | .ok (_, d) => (match g ss with
    | .ok ds => .ok (d :: ds)
    | .exc e => .exc e
    | .no => .no)
  | .exc e => .exc e
  | .no => .no

/-! ### what a wish says, case by case -/
theorem tB_ok {B : Hp} {ss : En} {fps : List (List Addr)} {f : EB} {n : Nat} {d : D} (pi : Pi K B σ H ss fps) (h : f ss = .ok (n, d)) (k : ∀ B' v H', Stp B H B' H' → Bw K B' H' n d v → Q v H') : tB K W f σ H Q :=
  ⟨B, ss, fps, pi, by rw [h]; exact k⟩
theorem tB_exc {B : Hp} {ss : En} {fps : List (List Addr)} {f : EB} {e : Exo} (pi : Pi K B σ H ss fps) (h : f ss = .exc e) (k : ∀ B' cls dd H', Stp B H B' H' → ExR K B' H' e cls dd → W cls dd σ H') : tB K W f σ H Q :=
  ⟨B, ss, fps, pi, by rw [h]; exact k⟩
/-- how a reading by tB is shown: from its state, by what f answers there -/
theorem tB_cut {f g : EB} {Q' : VK} (h : tB K W g σ H Q')
    (k : ∀ B ss fps, Pi K B σ H ss fps → (match g ss with
      | .ok (n, d) => ∀ B' v H', Stp B H B' H' → Bw K B' H' n d v → Q' v H'
      | .exc e => ∀ B' cls dd H', Stp B H B' H' → ExR K B' H' e cls dd → W cls dd σ H'
      | .no => False) → (match f ss with
      | .ok (n, d) => ∀ B' v H', Stp B H B' H' → Bw K B' H' n d v → Q v H'
      | .exc e => ∀ B' cls dd H', Stp B H B' H' → ExR K B' H' e cls dd → W cls dd σ H'
      | .no => False)) : tB K W f σ H Q := by
  obtain ⟨B, ss, fps, pi, q⟩ := h
  exact ⟨B, ss, fps, pi, k B ss fps pi q⟩
end

section
variable {X : Cx} {W : WX} {e a b c : Expr} {pos : Pos} {f f1 f2 f3 : EB}
theorem b_of_m (h : PE X e (tM X.K W f)) : PE X e (tB X.K W (frzE f)) := by
  refine pe_w h fun σ H Q hq => ?_
  obtain ⟨B, ss, fps, pi, k⟩ := hq
  refine ⟨B, ss, fps, pi, ?_⟩
  unfold frzE at k
  cases hf : f ss with
  | ok r =>
    obtain ⟨n, d⟩ := r
    rw [hf] at k
    intro B' v H' fp st nw
    obtain ⟨B2, q1, q2, q3, q4⟩ := nw.freeze st.bh
    exact k B2 v H' ⟨st.bb.trans q1, st.hh, q2, fun a z1 z2 => q4 a (st.dj a z1 z2) z2⟩ (bw0 q3)
  | exc e => rw [hf] at k; exact k
  | no => rw [hf] at k; exact k
theorem m_of_b (h : PE X e (tB X.K W f)) : PE X e (tM X.K W (own0 f)) := by
  refine pe_w h fun σ H Q hq => ?_
  obtain ⟨B, ss, fps, pi, k⟩ := hq
  refine ⟨B, ss, fps, pi, ?_⟩
  unfold own0 at k
  cases hf : f ss with
  | ok r =>
    obtain ⟨n, d⟩ := r
    rw [hf] at k
    cases n with
    | zero =>
      intro B' v H' st bw
      exact k B' v H' [] st ⟨⟨rfl, bw.rep⟩, List.nodup_nil, fun a z => nomatch z⟩
    | succ n => exact k.elim
  | exc e => rw [hf] at k; exact k
  | no => rw [hf] at k; exact k
theorem b_var (i : Nat) {x : Str} (hN : X.N[i]? = some x := by rfl) (hv : Vis X.env.scope x := by first | exact Or.inl rfl | exact Or.inr (Or.inl rfl) | exact Or.inr (Or.inr rfl)) (hd : (x == ("__debug__" : Str)) = false := by decide)
    (hcd : (x == ("__classdict__" : Str)) = false := by decide) : PE X (.Name x pos) (tB X.K W (eVar i)) := by
  refine pe_w (pe_var hN hv hd hcd) fun σ H Q hq => ?_
  obtain ⟨B, ss, fps, pi, k⟩ := hq
  unfold eVar at k
  cases hs : ss[i]? with
  | none => rw [hs] at k; exact k.elim
  | some s =>
    rw [hs] at k
    cases s with
    | un => exact k.elim
    | v n d =>
      obtain ⟨v, h1, h2⟩ := pi.get hs
      exact ⟨v, h1, k B v H (.refl pi.bh) h2⟩
    | o w n d =>
      obtain ⟨o, c, h1, h2, h3, h4⟩ := pi.al.get hs
      subst h3
      exact ⟨w, h1, k B w H (.refl pi.bh) h4.bw⟩
theorem b_c {v : V} {d : D} (h : PE X e (tC v)) (r : ∀ B, Rep X.K B d v) : PE X e (tB X.K W (eC d)) := by
  refine pe_w h fun σ H Q hq => ?_
  obtain ⟨B, ss, fps, pi, k⟩ := hq
  exact k B v H (.refl pi.bh) (bw0 (r B))
theorem b_int {i : Int} {j : Nat} : PE X (.Constant (.int i) j pos) (tB X.K W (eC (.int i))) := b_c pe_int fun _ => rep_int
theorem b_bl {i : Bool} {j : Nat} : PE X (.Constant (.bool i) j pos) (tB X.K W (eC (.bl i))) := b_c pe_bl fun _ => rep_bl
theorem b_non {j : Nat} : PE X (.Constant .none j pos) (tB X.K W (eC .non)) := b_c pe_non fun _ => rep_non
theorem b_str {i : Str} {j : Nat} : PE X (.Constant (.str i) j pos) (tB X.K W (eC (.str i))) := b_c pe_str fun _ => rep_str

/-! ### operations with flat answers -/
def OpOk (K : PySem.W.Frag) (r : R2) (g : D → D → Option D) : Prop := ∀ (H : Hp) (da db d : D) (x y : V) (Q : VK), Rep K H da x → Rep K H db y → g da db = some d → (∀ v, (∀ B, Rep K B d v) → Q v H) → r x y H Q
theorem op_of {r : R2} {g : D → D → Option D} (hg : OpOk X.K r g) (σ : L2.St) (H : Hp) (Q : VK) (hq : tB X.K W (eOp g f1 f2) σ H Q) : tOp r (tB X.K W f1) (tB X.K W f2) σ H Q := by
  refine tB_cut hq fun B ss fps pi k => ?_
  unfold eOp at k
  cases h1 : f1 ss with
  | ok r1 =>
    obtain ⟨n1, d1⟩ := r1
    rw [h1] at k
    intro B1 x H1 s1 bx
    cases h2 : f2 ss with
    | ok r2 =>
      obtain ⟨n2, d2⟩ := r2
      rw [h2] at k
      refine tB_ok (pi.step s1) h2 fun B2 y H2 s2 bY => ?_
      cases hh : g d1 d2 with
      | some d =>
        simp only [hh] at k
        exact hg H2 d1 d2 d x y Q ((bx.le s2.bb s2.hh).here s2.bh) (bY.here s2.bh) hh fun v rv => k B2 v H2 (s1.trans s2) (bw0 (rv B2))
      | none => simp only [hh] at k
    | exc e =>
      rw [h2] at k
      exact tB_exc (pi.step s1) h2 fun B2 cls dd H2 s2 ex => k B2 cls dd H2 (s1.trans s2) ex
    | no => rw [h2] at k; exact k.elim
  | exc e => rw [h1] at k; exact k
  | no => rw [h1] at k; exact k
theorem b_op {op : Operator} {r : R2} {g : D → D → Option D} (ho : OpR X (binaryOp op) r) (hg : OpOk X.K r g) (ha : PE X a (tB X.K W f1)) (hb : PE X b (tB X.K W f2)) : PE X (.BinOp a op b pos) (tB X.K W (eOp g f1 f2)) :=
  pe_w (pe_op ho ha hb) fun σ H Q hq => op_of hg σ H Q hq
theorem b_cmp {op : CmpOp} {r : R2} {g : D → D → Option D} (ho : OpR X (compareOp op) r) (hg : OpOk X.K r g) (ha : PE X a (tB X.K W f1)) (hb : PE X b (tB X.K W f2)) (hm : behindInMarks op b = false) : PE X (.Compare a [op] [b] pos) (tB X.K W (eOp g f1 f2)) :=
  pe_w (pe_cmpR ho ha hb hm) fun σ H Q hq => op_of hg σ H Q hq
theorem test_of {f : EB} {σ : L2.St} {H : Hp} {Q : Bool → Hp → Prop} (hq : tT X.K W (eTest f) σ H Q) : tB X.K W f σ H (fun x H' => ∃ k, x = .bl k ∧ Q k H') := by
  obtain ⟨B, ss, fps, pi, k⟩ := hq
  refine ⟨B, ss, fps, pi, ?_⟩
  unfold eTest at k
  cases h1 : f ss with
  | ok r =>
    obtain ⟨n, d⟩ := r
    rw [h1] at k
    cases d <;> first | exact k.elim | skip
    rename_i b
    intro B' v H' st bw
    have e := bw.flat (B' := B') rfl
    rw [Rep] at e
    exact ⟨b, e, k B' H' st⟩
  | exc e => rw [h1] at k; exact k
  | no => rw [h1] at k; exact k
theorem t_cmp {op : CmpOp} {r : R2} {g : D → D → Option D} (ho : OpR X (compareOp op) r) (hg : OpOk X.K r g) (ha : PE X a (tB X.K W f1)) (hb : PE X b (tB X.K W f2)) (hm : behindInMarks op b = false) : PT X (.Compare a [op] [b] pos) (tT X.K W (eTest (eOp g f1 f2))) :=
  pt_w (pt_cmpR ho ha hb hm) fun σ H Q hq => op_of hg σ H _ (test_of hq)
theorem t_val (h : PE X e (tB X.K W f)) (he : ∀ whole, isTrue e X.env whole = (do let v ← whole; standAt e.pos; holding [v] (truthy v)) := by intro _; rfl) : PT X e (tT X.K W (eTest f)) :=
  pt_w (pt_val h he) fun σ H Q hq => test_of hq

/-! ### truth: and, or, not, if -/
def tyAnd (f g : ET) : ET := fun ss => match f ss with
  | .ok true => g ss
  | o => o
def tyOr (f g : ET) : ET := fun ss => match f ss with
  | .ok false => g ss
  | o => o
def tyNot (f : ET) : ET := fun ss => match f ss with
  | .ok b => .ok (!b)
  | o => o
variable {t1 t2 : ET}
theorem tT_step {K : PySem.W.Frag} {W : WX} {σ : L2.St} {H B B1 H1 : Hp} {ss : En} {fps : List (List Addr)} {f : ET} {Q : Bool → Hp → Prop} (pi : Pi K B σ H ss fps) (s1 : Stp B H B1 H1)
    (k : match f ss with
      | .ok b => ∀ B' H', Stp B H B' H' → Q b H'
      | .exc e => ∀ B' cls dd H', Stp B H B' H' → ExR K B' H' e cls dd → W cls dd σ H'
      | .no => False) : tT K W f σ H1 Q := by
  refine ⟨B1, ss, fps, pi.step s1, ?_⟩
  cases h : f ss with
  | ok b => rw [h] at k; exact fun B' H' s => k B' H' (s1.trans s)
  | exc e => rw [h] at k; exact fun B' cls dd H' s ex => k B' cls dd H' (s1.trans s) ex
  | no => rw [h] at k; exact k.elim
theorem and_of {σ : L2.St} {H : Hp} {Q : Bool → Hp → Prop} (hq : tT X.K W (tyAnd t1 t2) σ H Q) : tAnd (tT X.K W t1) (tT X.K W t2) σ H Q := by
  obtain ⟨B, ss, fps, pi, k⟩ := hq
  refine ⟨B, ss, fps, pi, ?_⟩
  unfold tyAnd at k
  cases h : t1 ss with
  | ok b =>
    rw [h] at k
    cases b with
    | true => exact fun B1 H1 s1 => tT_step pi s1 k
    | false => exact fun B1 H1 s1 => k B1 H1 s1
  | exc e => rw [h] at k; exact k
  | no => rw [h] at k; exact k
theorem or_of {σ : L2.St} {H : Hp} {Q : Bool → Hp → Prop} (hq : tT X.K W (tyOr t1 t2) σ H Q) : tOr (tT X.K W t1) (tT X.K W t2) σ H Q := by
  obtain ⟨B, ss, fps, pi, k⟩ := hq
  refine ⟨B, ss, fps, pi, ?_⟩
  unfold tyOr at k
  cases h : t1 ss with
  | ok b =>
    rw [h] at k
    cases b with
    | false => exact fun B1 H1 s1 => tT_step pi s1 k
    | true => exact fun B1 H1 s1 => k B1 H1 s1
  | exc e => rw [h] at k; exact k
  | no => rw [h] at k; exact k
theorem not_of {σ : L2.St} {H : Hp} {Q : Bool → Hp → Prop} (hq : tT X.K W (tyNot t1) σ H Q) : tNot (tT X.K W t1) σ H Q := by
  obtain ⟨B, ss, fps, pi, k⟩ := hq
  refine ⟨B, ss, fps, pi, ?_⟩
  unfold tyNot at k
  cases h : t1 ss with
  | ok b => rw [h] at k; exact k
  | exc e => rw [h] at k; exact k
  | no => rw [h] at k; exact k
variable {rest : List Expr}
theorem w_and1 (ha : PT X a (tT X.K W t1)) : PW X (.BoolOp .And [a] pos) (tT X.K W t1) := pw_and1 ha
theorem w_or1 (ha : PT X a (tT X.K W t1)) : PW X (.BoolOp .Or [a] pos) (tT X.K W t1) := pw_or1 ha
theorem w_and (ha : PT X a (tT X.K W t1)) (hb : PW X (.BoolOp .And (b :: rest) pos) (tT X.K W t2)) : PW X (.BoolOp .And (a :: b :: rest) pos) (tT X.K W (tyAnd t1 t2)) := pw_w (pw_and ha hb) fun σ H Q hq => and_of hq
theorem w_or (ha : PT X a (tT X.K W t1)) (hb : PW X (.BoolOp .Or (b :: rest) pos) (tT X.K W t2)) : PW X (.BoolOp .Or (a :: b :: rest) pos) (tT X.K W (tyOr t1 t2)) := pw_w (pw_or ha hb) fun σ H Q hq => or_of hq
theorem t_not (ha : PT X a (tT X.K W t1)) : PT X (.UnaryOp .Not a pos) (tT X.K W (tyNot t1)) := pt_w (pt_not ha) fun σ H Q hq => not_of hq
/-- values: all but the last True or False -/
def eAnd (f g : EB) : EB := fun ss => match f ss with
  | .ok (_, .bl true) => g ss
  | .ok (_, .bl false) => .ok (0, .bl false)
  | .ok (_, _) => .no
  | .exc e => .exc e
  | .no => .no
def eOr (f g : EB) : EB := fun ss => match f ss with
  | .ok (_, .bl false) => g ss
  | .ok (_, .bl true) => .ok (0, .bl true)
  | .ok (_, _) => .no
  | .exc e => .exc e
  | .no => .no
def eNot (f : EB) : EB := fun ss => match f ss with
  | .ok (_, .bl b) => .ok (0, .bl (!b))
  | .ok (_, _) => .no
  | .exc e => .exc e
  | .no => .no
def eIf (t : ET) (f g : EB) : EB := fun ss => match t ss with
  | .ok true => f ss
  | .ok false => g ss
  | .exc e => .exc e
  | .no => .no
theorem tB_step {K : PySem.W.Frag} {W : WX} {σ : L2.St} {H B B1 H1 : Hp} {ss : En} {fps : List (List Addr)} {f : EB} {Q : VK} (pi : Pi K B σ H ss fps) (s1 : Stp B H B1 H1)
    (k : match f ss with
      | .ok (n, d) => ∀ B' v H', Stp B H B' H' → Bw K B' H' n d v → Q v H'
      | .exc e => ∀ B' cls dd H', Stp B H B' H' → ExR K B' H' e cls dd → W cls dd σ H'
      | .no => False) : tB K W f σ H1 Q := by
  refine ⟨B1, ss, fps, pi.step s1, ?_⟩
  cases h : f ss with
  | ok r => obtain ⟨n, d⟩ := r; rw [h] at k; exact fun B' v H' s bw => k B' v H' (s1.trans s) bw
  | exc e => rw [h] at k; exact fun B' cls dd H' s ex => k B' cls dd H' (s1.trans s) ex
  | no => rw [h] at k; exact k.elim
theorem tM_step {K : PySem.W.Frag} {W : WX} {σ : L2.St} {H B B1 H1 : Hp} {ss : En} {fps : List (List Addr)} {f : EB} {Q : VK} (pi : Pi K B σ H ss fps) (s1 : Stp B H B1 H1)
    (k : match f ss with
      | .ok (n, d) => ∀ B' v H' fp, Stp B H B' H' → New K H B' H' n d v fp → Q v H'
      | .exc e => ∀ B' cls dd H', Stp B H B' H' → ExR K B' H' e cls dd → W cls dd σ H'
      | .no => False) : tM K W f σ H1 Q := by
  refine ⟨B1, ss, fps, pi.step s1, ?_⟩
  cases h : f ss with
  | ok r => obtain ⟨n, d⟩ := r; rw [h] at k; exact fun B' v H' fp s nw => k B' v H' fp (s1.trans s) ⟨nw.ow, nw.nd, fun a ha => ⟨(nw.fr a ha).1, s1.hh.back (nw.fr a ha).2⟩⟩
  | exc e => rw [h] at k; exact fun B' cls dd H' s ex => k B' cls dd H' (s1.trans s) ex
  | no => rw [h] at k; exact k.elim
theorem b_one {op : BoolOp} (h : PE X a (tB X.K W f)) : PE X (.BoolOp op [a] pos) (tB X.K W f) := pe_one h
theorem b_and (ha : PE X a (tB X.K W f1)) (hb : PE X (.BoolOp .And (b :: rest) pos) (tB X.K W f2)) : PE X (.BoolOp .And (a :: b :: rest) pos) (tB X.K W (eAnd f1 f2)) := by
  refine pe_w (pe_and ha hb) fun σ H Q hq => tB_cut hq fun B ss fps pi k => ?_
  unfold eAnd at k
  cases h : f1 ss with
  | ok r =>
    obtain ⟨n, d⟩ := r
    rw [h] at k
    cases d <;> first | exact k.elim | skip
    rename_i b
    intro B1 v H1 s1 bw
    have e := bw.flat (B' := B1) rfl
    rw [Rep] at e
    refine ⟨b, e, ?_⟩
    cases b with
    | true => exact tB_step pi s1 k
    | false => exact k B1 _ H1 s1 (bw0 rep_bl)
  | exc e => rw [h] at k; exact k
  | no => rw [h] at k; exact k
theorem b_or (ha : PE X a (tB X.K W f1)) (hb : PE X (.BoolOp .Or (b :: rest) pos) (tB X.K W f2)) : PE X (.BoolOp .Or (a :: b :: rest) pos) (tB X.K W (eOr f1 f2)) := by
  refine pe_w (pe_or ha hb) fun σ H Q hq => tB_cut hq fun B ss fps pi k => ?_
  unfold eOr at k
  cases h : f1 ss with
  | ok r =>
    obtain ⟨n, d⟩ := r
    rw [h] at k
    cases d <;> first | exact k.elim | skip
    rename_i b
    intro B1 v H1 s1 bw
    have e := bw.flat (B' := B1) rfl
    rw [Rep] at e
    refine ⟨b, e, ?_⟩
    cases b with
    | false => exact tB_step pi s1 k
    | true => exact k B1 _ H1 s1 (bw0 rep_bl)
  | exc e => rw [h] at k; exact k
  | no => rw [h] at k; exact k
theorem b_not (ha : PE X a (tB X.K W f)) : PE X (.UnaryOp .Not a pos) (tB X.K W (eNot f)) := by
  refine pe_w (pe_not ha) fun σ H Q hq => tB_cut hq fun B ss fps pi k => ?_
  unfold eNot at k
  cases h : f ss with
  | ok r =>
    obtain ⟨n, d⟩ := r
    rw [h] at k
    cases d <;> first | exact k.elim | skip
    rename_i b
    intro B1 v H1 s1 bw
    have e := bw.flat (B' := B1) rfl
    rw [Rep] at e
    exact ⟨b, e, k B1 _ H1 s1 (bw0 rep_bl)⟩
  | exc e => rw [h] at k; exact k
  | no => rw [h] at k; exact k
theorem b_if (hc : PT X c (tT X.K W t1)) (ha : PE X a (tB X.K W f1)) (hb : PE X b (tB X.K W f2)) : PE X (.IfExp c a b pos) (tB X.K W (eIf t1 f1 f2)) := by
  refine pe_w (pe_ifExp hc ha hb) fun σ H Q hq => ?_
  obtain ⟨B, ss, fps, pi, k⟩ := hq
  refine ⟨B, ss, fps, pi, ?_⟩
  unfold eIf at k
  cases h : t1 ss with
  | ok b =>
    rw [h] at k
    cases b with
    | true => exact fun B1 H1 s1 => tB_step pi s1 k
    | false => exact fun B1 H1 s1 => tB_step pi s1 k
  | exc e => rw [h] at k; exact k
  | no => rw [h] at k; exact k

/-! ### one-place operations, arguments -/
def UnOk (K : PySem.W.Frag) (r : V → Hp → VK → Prop) (g : D → Option D) : Prop := ∀ (H : Hp) (da d : D) (x : V) (Q : VK), Rep K H da x → g da = some d → (∀ v, (∀ B, Rep K B d v) → Q v H) → r x H Q
theorem b_un {op : UnaryOp} {r : V → Hp → VK → Prop} {g : D → Option D} (ho : UnR X (unaryOp op) r) (hg : UnOk X.K r g) (ha : PE X a (tB X.K W f)) : PE X (.UnaryOp op a pos) (tB X.K W (eUn g f)) := by
  refine pe_w (pe_un ho ha) fun σ H Q hq => tB_cut hq fun B ss fps pi k => ?_
  unfold eUn at k
  cases h : f ss with
  | ok r =>
    obtain ⟨n, d⟩ := r
    rw [h] at k
    intro B1 v H1 s1 bw
    cases hh : g d with
    | some d2 =>
      simp only [hh] at k
      exact hg H1 d d2 v Q (bw.here s1.bh) hh fun v rv => k B1 v H1 s1 (bw0 (rv B1))
    | none => simp only [hh] at k
  | exc e => rw [h] at k; exact k
  | no => rw [h] at k; exact k
variable {es : List Expr} {g1 g2 : EA}
theorem ah_nil : PA X [] (tAh X.K W aNil) := by
  refine pa_w pa_nil fun σ H Q hq => ?_
  obtain ⟨B, ss, fps, pi, k⟩ := hq
  exact k B [] H (.refl pi.bh) reps_nil
theorem ah_cons (ha : PE X e (tB X.K W f)) (hr : PA X es (tAh X.K W g1)) (hs : starEach (e :: es) X.env = (false, eval e X.env) :: starEach es X.env := by rfl) : PA X (e :: es) (tAh X.K W (aCons f g1)) := by
  refine pa_w (pa_cons ha hr hs) fun σ H Q hq => ?_
  obtain ⟨B, ss, fps, pi, k⟩ := hq
  refine ⟨B, ss, fps, pi, ?_⟩
  unfold aCons at k
  cases h : f ss with
  | ok r =>
    obtain ⟨n, d⟩ := r
    rw [h] at k
    intro B1 v H1 s1 bw
    refine ⟨B1, ss, fps, pi.step s1, ?_⟩
    cases h2 : g1 ss with
    | ok ds =>
      rw [h2] at k
      intro B2 vs H2 s2 rs
      exact k B2 (v :: vs) H2 (s1.trans s2) (reps_cons (Rep.mono s2.hh _ _ (bw.here s1.bh)) rs)
    | exc e => rw [h2] at k; exact fun B2 cls dd H2 s2 ex => k B2 cls dd H2 (s1.trans s2) ex
    | no => rw [h2] at k; exact k.elim
  | exc e => rw [h] at k; exact k
  | no => rw [h] at k; exact k
/-- arguments that stand in the base: each item of depth 0 -/
def a0Cons (f : EB) (g : EA) : EA := fun ss => match f ss with
  | .ok (0, d) => (match g ss with
    | .ok ds => .ok (d :: ds)
    | .exc e => .exc e
    | .no => .no)
  | .ok (_, _) => .no
  | .exc e => .exc e
  | .no => .no
theorem a_nil : PA X [] (tA X.K W aNil) := by
  refine pa_w pa_nil fun σ H Q hq => ?_
  obtain ⟨B, ss, fps, pi, k⟩ := hq
  exact k B [] H (.refl pi.bh) reps_nil
theorem a_cons (ha : PE X e (tB X.K W f)) (hr : PA X es (tA X.K W g1)) (hs : starEach (e :: es) X.env = (false, eval e X.env) :: starEach es X.env := by rfl) : PA X (e :: es) (tA X.K W (a0Cons f g1)) := by
  refine pa_w (pa_cons ha hr hs) fun σ H Q hq => ?_
  obtain ⟨B, ss, fps, pi, k⟩ := hq
  refine ⟨B, ss, fps, pi, ?_⟩
  unfold a0Cons at k
  cases h : f ss with
  | ok r =>
    obtain ⟨n, d⟩ := r
    rw [h] at k
    cases n with
    | zero =>
      intro B1 v H1 s1 bw
      refine ⟨B1, ss, fps, pi.step s1, ?_⟩
      cases h2 : g1 ss with
      | ok ds =>
        simp only [h2] at k
        intro B2 vs H2 s2 rs
        exact k B2 (v :: vs) H2 (s1.trans s2) (reps_cons (Rep.mono s2.bb _ _ bw.rep) rs)
      | exc e => simp only [h2] at k; exact fun B2 cls dd H2 s2 ex => k B2 cls dd H2 (s1.trans s2) ex
      | no => simp only [h2] at k
    | succ n => exact k.elim
  | exc e => rw [h] at k; exact k
  | no => rw [h] at k; exact k

/-! ### built-in functions with flat answers -/
def eCall (g : List D → Option D) (ga : EA) : EB := fun ss => match ga ss with
  | .ok ds => (match g ds with
    | some d => .ok (0, d)
    | none => .no)
  | .exc e => .exc e
  | .no => .no
def ClOk (K : PySem.W.Frag) (r : List V → Hp → VK → Prop) (g : List D → Option D) : Prop := ∀ (H : Hp) (ds : List D) (d : D) (vs : List V) (Q : VK), Reps K H ds vs → g ds = some d → (∀ v, (∀ B, Rep K B d v) → Q v H) → r vs H Q
theorem call_of {r : List V → Hp → VK → Prop} {g : List D → Option D} (hg : ClOk X.K r g) (σ : L2.St) (H : Hp) (Q : VK) (hq : tB X.K W (eCall g g1) σ H Q) : tCB r (tAh X.K W g1) σ H Q := by
  obtain ⟨B, ss, fps, pi, k⟩ := hq
  refine ⟨B, ss, fps, pi, ?_⟩
  unfold eCall at k
  cases h : g1 ss with
  | ok ds =>
    rw [h] at k
    intro B1 vs H1 s1 rs
    cases hh : g ds with
    | some d =>
      simp only [hh] at k
      exact hg H1 ds d vs Q rs hh fun v rv => k B1 v H1 s1 (bw0 (rv B1))
    | none => simp only [hh] at k
  | exc e => rw [h] at k; exact k
  | no => rw [h] at k; exact k
variable {x : Str} {p : Pos} {id T : String}
theorem b_callB {r : List V → Hp → VK → Prop} {g : List D → Option D} (hc : CallR X (.builtin id) r) (hg : ClOk X.K r g) (hgl : Gl X x) (hm : X.mg x = none) (hv : bootBuiltins x = some (.builtin id)) (ha : PA X (e :: es) (tAh X.K W g1)) (hn : x ≠ "__name__" := by decide) (hdb : (x == ("__debug__" : Str)) = false := by decide)
    (he : starEach (e :: es) X.env = (false, eval e X.env) :: starEach es X.env := by rfl) (hpl : (backTo pos (starEach es X.env)).any (·.1) = false := by rfl) : PE X (.Call (.Name x p) (e :: es) [] pos) (tB X.K W (eCall g g1)) :=
  pe_w (pe_callB hc hgl hm hv ha hn hdb he hpl) fun σ H Q hq => call_of hg σ H Q hq
theorem b_callTy {r : List V → Hp → VK → Prop} {g : List D → Option D} (hc : CallR X (.type T) r) (hg : ClOk X.K r g) (hgl : Gl X x) (hm : X.mg x = none) (hv : bootBuiltins x = some (.type T)) (ha : PA X (e :: es) (tAh X.K W g1)) (hn : x ≠ "__name__" := by decide) (hdb : (x == ("__debug__" : Str)) = false := by decide)
    (he : starEach (e :: es) X.env = (false, eval e X.env) :: starEach es X.env := by rfl) (hpl : (backTo pos (starEach es X.env)).any (·.1) = false := by rfl) : PE X (.Call (.Name x p) (e :: es) [] pos) (tB X.K W (eCall g g1)) :=
  pe_w (pe_callTy hc hgl hm hv ha hn hdb he hpl) fun σ H Q hq => call_of hg σ H Q hq
end
end Mv

namespace Mv
open PySem L2

/-! ### operations on plain data -/
def gInt (f : Int → Int → D) : D → D → Option D
  | .int i, .int j => some (f i j)
  | _, _ => none
def gIntC (C : Int → Int → Bool) (f : Int → Int → D) : D → D → Option D
  | .int i, .int j => if C i j then some (f i j) else none
  | _, _ => none
section
variable {K : PySem.W.Frag}
theorem ok_int {u : Int → Int → V} {f : Int → Int → D} (r : ∀ i j B, Rep K B (f i j) (u i j)) : OpOk K (rI0 u) (gInt f) := by
  intro H da db d x y Q ra rb e k
  cases da <;> first | cases e | skip
  cases db <;> first | cases e | skip
  rw [Rep] at ra rb
  exact ⟨_, _, ra, rb, k _ (r _ _)⟩
theorem ok_intC {P : Int → Int → Prop} {C : Int → Int → Bool} {u : Int → Int → V} {f : Int → Int → D} (c : ∀ i j, C i j = true → P i j) (r : ∀ i j B, Rep K B (f i j) (u i j)) : OpOk K (rI P u) (gIntC C f) := by
  intro H da db d x y Q ra rb e k
  cases da <;> first | cases e | skip
  cases db <;> first | cases e | skip
  rename_i i j
  rw [Rep] at ra rb
  unfold gIntC at e
  by_cases hc : C i j = true
  · simp only [hc, if_true] at e
    cases e
    exact ⟨_, _, ra, rb, c _ _ hc, k _ (r _ _)⟩
  · simp only [hc] at e
    cases e
end
def gAdd : D → D → Option D := gInt fun i j => .int (i + j)
def gSub : D → D → Option D := gInt fun i j => .int (i - j)
def gMul : D → D → Option D := gIntC (fun i j => decide (i.natAbs.log2 + j.natAbs.log2 < 1000000)) fun i j => .int (i * j)
def gMod : D → D → Option D := gIntC (fun _ j => decide (0 < j)) fun i j => .int (i % j)
def gDiv : D → D → Option D := gIntC (fun _ j => decide (0 < j) && decide (j.natAbs.log2 < 9000)) fun i j => .int (i / j)
def gPow : D → D → Option D := gIntC (fun i j => decide (0 ≤ j) && (decide (j ≤ 1000000) && decide (i.natAbs < 2 ^ 64))) fun i j => .int (i ^ j.toNat)
def gLt : D → D → Option D := gInt fun i j => .bl (decide (i < j))
def gLe : D → D → Option D := gInt fun i j => .bl (decide (i ≤ j))
def gGt : D → D → Option D := gInt fun i j => .bl (decide (j < i))
def gGe : D → D → Option D := gInt fun i j => .bl (decide (j ≤ i))
section
variable {X : Cx} {W : WX} {a b c e : Expr} {pos : Pos} {f f1 f2 f3 : EB}
theorem b_add (ha : PE X a (tB X.K W f1)) (hb : PE X b (tB X.K W f2)) : PE X (.BinOp a .Add b pos) (tB X.K W (eOp gAdd f1 f2)) := b_op op_add (ok_int fun _ _ _ => rep_int) ha hb
theorem b_sub (ha : PE X a (tB X.K W f1)) (hb : PE X b (tB X.K W f2)) : PE X (.BinOp a .Sub b pos) (tB X.K W (eOp gSub f1 f2)) := b_op op_sub (ok_int fun _ _ _ => rep_int) ha hb
theorem b_mul (ha : PE X a (tB X.K W f1)) (hb : PE X b (tB X.K W f2)) : PE X (.BinOp a .Mult b pos) (tB X.K W (eOp gMul f1 f2)) := b_op op_mulW (ok_intC (fun i j h => by have q : i.natAbs.log2 + j.natAbs.log2 < 1000000 := of_decide_eq_true h; exact q) fun _ _ _ => rep_int) ha hb
theorem b_mod (ha : PE X a (tB X.K W f1)) (hb : PE X b (tB X.K W f2)) : PE X (.BinOp a .Mod b pos) (tB X.K W (eOp gMod f1 f2)) := b_op op_mod (ok_intC (fun _ _ h => of_decide_eq_true h) fun _ _ _ => rep_int) ha hb
theorem b_div (ha : PE X a (tB X.K W f1)) (hb : PE X b (tB X.K W f2)) : PE X (.BinOp a .FloorDiv b pos) (tB X.K W (eOp gDiv f1 f2)) :=
  b_op op_fdivW (ok_intC (fun _ _ h => by rw [Bool.and_eq_true] at h; exact ⟨of_decide_eq_true h.1, of_decide_eq_true h.2⟩) fun _ _ _ => rep_int) ha hb
theorem b_pow (ha : PE X a (tB X.K W f1)) (hb : PE X b (tB X.K W f2)) : PE X (.BinOp a .Pow b pos) (tB X.K W (eOp gPow f1 f2)) :=
  b_op op_pow (ok_intC (fun _ _ h => by rw [Bool.and_eq_true, Bool.and_eq_true] at h; exact ⟨of_decide_eq_true h.1, of_decide_eq_true h.2.1, of_decide_eq_true h.2.2⟩) fun _ _ _ => rep_int) ha hb
theorem ok_lt : OpOk X.K (rI0 fun i j => .bl (decide (i < j))) gLt := ok_int fun _ _ _ => rep_bl
theorem ok_le : OpOk X.K (rI0 fun i j => .bl (decide (i ≤ j))) gLe := ok_int fun _ _ _ => rep_bl
theorem ok_gt : OpOk X.K (rI0 fun i j => .bl (decide (j < i))) gGt := ok_int fun _ _ _ => rep_bl
theorem ok_ge : OpOk X.K (rI0 fun i j => .bl (decide (j ≤ i))) gGe := ok_int fun _ _ _ => rep_bl

/-! ### equality of plain data without truth values -/
end
mutual
def D.py : D → PyData
  | .non => .none
  | .bl b => .bool b
  | .int i => .int i
  | .str x => .str x
  | .lst ds => .list (pys ds)
  | .tup ds => .tuple (pys ds)
  | .rdl ds => .list (pys ds)
  | .ins _ _ => .none
  | .exo _ => .none
  | .exd _ _ _ => .none
def pys : List D → List PyData
  | [] => []
  | d :: ds => d.py :: pys ds
end
mutual
/-- data of depth at most n, no truth values within -/
def pl : D → Nat → Bool
  | .non, _ => true
  | .int _, _ => true
  | .str x, _ => PyData.strOk x
  | .lst ds, n => decide (0 < n) && pls ds (n - 1)
  | .tup ds, n => decide (0 < n) && pls ds (n - 1)
  | .bl _, _ => false
  | .rdl _, _ => false
  | .ins _ _, _ => false
  | .exo _, _ => false
  | .exd _ _ _, _ => false
def pls : List D → Nat → Bool
  | [], _ => true
  | d :: ds, n => pl d n && pls ds n
end
section
variable {K : PySem.W.Frag} {H : Hp}
mutual
theorem dp_of : ∀ (d : D) (n : Nat) (v : V), pl d n = true → Rep K H d v → Dp K H v d.py
  | .non, n, v, h, r => by rw [Rep] at r; subst r; rw [D.py]; exact .non
  | .int i, n, v, h, r => by rw [Rep] at r; subst r; rw [D.py]; exact .int i
  | .str x, n, v, h, r => by rw [Rep] at r; subst r; rw [D.py]; exact .str x
  | .lst ds, n, v, h, r => by
    rw [Rep] at r; obtain ⟨a, xs, rfl, ha, rs⟩ := r
    rw [pl, Bool.and_eq_true] at h
    rw [D.py]; exact .lst (SqL.of ha) (dps_of ds _ xs h.2 rs)
  | .tup ds, n, v, h, r => by
    rw [Rep] at r; obtain ⟨a, xs, rfl, ha, rs⟩ := r
    rw [pl, Bool.and_eq_true] at h
    rw [D.py]; exact .tup (SqT.of ha) (dps_of ds _ xs h.2 rs)
  | .bl b, n, v, h, r => by rw [pl] at h; cases h
  | .rdl ds, n, v, h, r => by rw [pl] at h; cases h
  | .ins C fs, n, v, h, r => by rw [pl] at h; cases h
  | .exo a, n, v, h, r => by rw [pl] at h; cases h
  | .exd a b c, n, v, h, r => by rw [pl] at h; cases h
theorem dps_of : ∀ (ds : List D) (n : Nat) (vs : List V), pls ds n = true → Reps K H ds vs → DpAll K H vs (pys ds)
  | [], n, vs, h, r => by rw [Reps] at r; subst r; rw [pys]; exact .nil
  | d :: ds, n, vs, h, r => by
    rw [Reps] at r; obtain ⟨v, us, rfl, r1, r2⟩ := r
    rw [pls, Bool.and_eq_true] at h
    rw [pys]; exact .cons (dp_of d n v h.1 r1) (dps_of ds n us h.2 r2)
end
end
theorem pl_bl {b : Bool} {n : Nat} : pl (.bl b) n = false := by rw [pl]
theorem pl_rdl {b : List D} {n : Nat} : pl (.rdl b) n = false := by rw [pl]
theorem pl_ins {C : Addr} {b : List (Str × D)} {n : Nat} : pl (.ins C b) n = false := by rw [pl]
theorem pl_exo {b : Addr} {n : Nat} : pl (.exo b) n = false := by rw [pl]
theorem pl_exd {a b : Addr} {c : List (Str × D)} {n : Nat} : pl (.exd a b c) n = false := by rw [pl]
mutual
theorem lay_of : ∀ (d : D) (n : Nat), pl d n = true → d.py.canLay0 = true
  | .non, n, h => by rw [D.py, PyData.canLay0]
  | .int i, n, h => by rw [D.py, PyData.canLay0]
  | .str x, n, h => by rw [D.py, PyData.canLay0]; rw [pl] at h; exact h
  | .lst ds, n, h => by
    rw [pl, Bool.and_eq_true] at h
    rw [D.py, PyData.canLay0]; exact lays_of ds _ h.2
  | .tup ds, n, h => by
    rw [pl, Bool.and_eq_true] at h
    rw [D.py, PyData.canLay0]; exact lays_of ds _ h.2
  | .bl b, n, h => by rw [pl_bl] at h; cases h
  | .rdl ds, n, h => by rw [pl_rdl] at h; cases h
  | .ins C fs, n, h => by rw [pl_ins] at h; cases h
  | .exo a, n, h => by rw [pl_exo] at h; cases h
  | .exd a b c, n, h => by rw [pl_exd] at h; cases h
theorem lays_of : ∀ (ds : List D) (n : Nat), pls ds n = true → PyData.canLayAll0 (pys ds) = true
  | [], n, h => by rw [pys, PyData.canLayAll0]
  | d :: ds, n, h => by
    rw [pls, Bool.and_eq_true] at h
    rw [pys, PyData.canLayAll0, lay_of d n h.1, lays_of ds n h.2, Bool.and_self]
end
mutual
theorem dep_of : ∀ (d : D) (n : Nat), pl d n = true → d.py.depth ≤ n
  | .non, n, h => by rw [D.py, PyData.depth]; exact Nat.zero_le _
  | .int i, n, h => by rw [D.py, PyData.depth]; exact Nat.zero_le _
  | .str x, n, h => by rw [D.py, PyData.depth]; exact Nat.zero_le _
  | .lst ds, n, h => by
    rw [pl, Bool.and_eq_true] at h
    have h1 := of_decide_eq_true h.1
    have h2 := deps_of ds _ h.2
    rw [D.py, PyData.depth]; omega
  | .tup ds, n, h => by
    rw [pl, Bool.and_eq_true] at h
    have h1 := of_decide_eq_true h.1
    have h2 := deps_of ds _ h.2
    rw [D.py, PyData.depth]; omega
  | .bl b, n, h => by rw [pl_bl] at h; cases h
  | .rdl ds, n, h => by rw [pl_rdl] at h; cases h
  | .ins C fs, n, h => by rw [pl_ins] at h; cases h
  | .exo a, n, h => by rw [pl_exo] at h; cases h
  | .exd a b c, n, h => by rw [pl_exd] at h; cases h
theorem deps_of : ∀ (ds : List D) (n : Nat), pls ds n = true → PyData.depthAll (pys ds) ≤ n
  | [], n, h => by rw [pys, PyData.depthAll]; exact Nat.zero_le _
  | d :: ds, n, h => by
    rw [pls, Bool.and_eq_true] at h
    have h1 := dep_of d n h.1
    have h2 := deps_of ds n h.2
    rw [pys, PyData.depthAll]; omega
end
mutual
theorem eqv_of : ∀ (d e : D) (n m : Nat), pl d n = true → pl e m = true → (PyData.eqv d.py e.py = true ↔ d = e)
  | .non, e, n, m, h, h' => by
    cases e <;> first | (rw [pl_bl] at h'; cases h') | (rw [pl_rdl] at h'; cases h') | (rw [pl_ins] at h'; cases h') | (rw [pl_exo] at h'; cases h') | (rw [pl_exd] at h'; cases h') | simp [D.py, PyData.eqv]
  | .int i, e, n, m, h, h' => by
    cases e <;> first | (rw [pl_bl] at h'; cases h') | (rw [pl_rdl] at h'; cases h') | (rw [pl_ins] at h'; cases h') | (rw [pl_exo] at h'; cases h') | (rw [pl_exd] at h'; cases h') | simp [D.py, PyData.eqv]
  | .str x, e, n, m, h, h' => by
    cases e <;> first | (rw [pl_bl] at h'; cases h') | (rw [pl_rdl] at h'; cases h') | (rw [pl_ins] at h'; cases h') | (rw [pl_exo] at h'; cases h') | (rw [pl_exd] at h'; cases h') | simp [D.py, PyData.eqv]
  | .lst ds, e, n, m, h, h' => by
    cases e <;> first | (rw [pl_bl] at h'; cases h') | (rw [pl_rdl] at h'; cases h') | (rw [pl_ins] at h'; cases h') | (rw [pl_exo] at h'; cases h') | (rw [pl_exd] at h'; cases h') | skip
    case lst es =>
      rw [pl, Bool.and_eq_true] at h h'
      rw [D.py, D.py, PyData.eqv, eqvs_of ds es _ _ h.2 h'.2, D.lst.injEq]
    all_goals simp [D.py, PyData.eqv]
  | .tup ds, e, n, m, h, h' => by
    cases e <;> first | (rw [pl_bl] at h'; cases h') | (rw [pl_rdl] at h'; cases h') | (rw [pl_ins] at h'; cases h') | (rw [pl_exo] at h'; cases h') | (rw [pl_exd] at h'; cases h') | skip
    case tup es =>
      rw [pl, Bool.and_eq_true] at h h'
      rw [D.py, D.py, PyData.eqv, eqvs_of ds es _ _ h.2 h'.2, D.tup.injEq]
    all_goals simp [D.py, PyData.eqv]
  | .bl b, e, n, m, h, h' => by rw [pl_bl] at h; cases h
  | .rdl ds, e, n, m, h, h' => by rw [pl_rdl] at h; cases h
  | .ins C fs, e, n, m, h, h' => by rw [pl_ins] at h; cases h
  | .exo a, e, n, m, h, h' => by rw [pl_exo] at h; cases h
  | .exd a b c, e, n, m, h, h' => by rw [pl_exd] at h; cases h
theorem eqvs_of : ∀ (ds es : List D) (n m : Nat), pls ds n = true → pls es m = true → (PyData.eqvAll (pys ds) (pys es) = true ↔ ds = es)
  | [], [], n, m, _, _ => by simp [pys, PyData.eqvAll]
  | [], e :: es, n, m, _, _ => by simp [pys, PyData.eqvAll]
  | d :: ds, [], n, m, _, _ => by simp [pys, PyData.eqvAll]
  | d :: ds, e :: es, n, m, h, h' => by
    rw [pls, Bool.and_eq_true] at h h'
    rw [pys, pys, PyData.eqvAll, Bool.and_eq_true, eqv_of d e n m h.1 h'.1, eqvs_of ds es n m h.2 h'.2, List.cons.injEq]
end
open Classical in
noncomputable def gEq : D → D → Option D
  | .bl a, .bl b => some (.bl (a == b))
  | a, b => if pl a 60 = true ∧ pl b 60 = true then some (.bl (decide (a = b))) else none
noncomputable def gNe (a b : D) : Option D := match gEq a b with
  | some (.bl x) => some (.bl (!x))
  | _ => none
open Classical in
theorem gEq_pl {a b : D} (ha : pl a 60 = true) (hb : pl b 60 = true) : gEq a b = some (.bl (decide (a = b))) := by
  unfold gEq
  split
  · rw [pl_bl] at ha; cases ha
  · rw [if_pos ⟨ha, hb⟩]
def rEqA (K : PySem.W.Frag) : R2 := fun x y H Q => rEq x y H Q ∨ rEqD K x y H Q
def rNeA (K : PySem.W.Frag) : R2 := fun x y H Q => rNe x y H Q ∨ rNeD K x y H Q
open Classical in
theorem gEq_cases {a b d : D} (h : gEq a b = some d) : (∃ x y, a = .bl x ∧ b = .bl y ∧ d = .bl (x == y)) ∨ (pl a 60 = true ∧ pl b 60 = true ∧ d = .bl (decide (a = b))) := by
  unfold gEq at h
  split at h
  · exact .inl ⟨_, _, rfl, rfl, (Option.some.inj h).symm⟩
  · by_cases hp : pl a 60 = true ∧ pl b 60 = true
    · rw [if_pos hp] at h
      exact .inr ⟨hp.1, hp.2, (Option.some.inj h).symm⟩
    · rw [if_neg hp] at h
      cases h
theorem shaped_pl {a : D} (h : pl a 60 = true) : SeqAt.shaped a.py = true := by
  unfold SeqAt.shaped
  rw [Bool.and_eq_true]
  exact ⟨lay_of a 60 h, decide_eq_true (Nat.le_trans (dep_of a 60 h) (by decide))⟩
open Classical in
theorem eqv_dec {a b : D} (ha : pl a 60 = true) (hb : pl b 60 = true) : PyData.eqv a.py b.py = decide (a = b) := by
  by_cases e : a = b
  · rw [decide_eq_true e]; exact (eqv_of a b 60 60 ha hb).mpr e
  · rw [decide_eq_false e]
    cases h : PyData.eqv a.py b.py with
    | false => rfl
    | true => exact absurd ((eqv_of a b 60 60 ha hb).mp h) e
theorem ok_eq {K : PySem.W.Frag} : OpOk K (rEqA K) gEq := by
  intro H da db d x y Q ra rb e k
  rcases gEq_cases e with ⟨u, v, rfl, rfl, rfl⟩ | ⟨h1, h2, rfl⟩
  · rw [Rep] at ra rb
    subst ra rb
    refine .inl ⟨rfl, ?_⟩
    rw [dec_bl]
    exact k _ fun _ => rep_bl
  · refine .inr ⟨_, _, dp_of da 60 x h1 ra, dp_of db 60 y h2 rb, shaped_pl h1, shaped_pl h2, ?_⟩
    rw [eqv_dec h1 h2]
    exact k _ fun _ => rep_bl
theorem ok_ne {K : PySem.W.Frag} : OpOk K (rNeA K) gNe := by
  intro H da db d x y Q ra rb e k
  unfold gNe at e
  cases he : gEq da db with
  | none => rw [he] at e; cases e
  | some z =>
    rw [he] at e
    cases z <;> first | (cases e; done) | skip
    rename_i bz
    have ed : d = .bl (!bz) := (Option.some.inj e).symm
    subst ed
    rcases gEq_cases he with ⟨u, v, rfl, rfl, h3⟩ | ⟨h1, h2, h3⟩
    · rw [Rep] at ra rb
      subst ra rb
      refine .inl ⟨rfl, ?_⟩
      rw [dec_bl]
      cases h3
      exact k _ fun _ => rep_bl
    · refine .inr ⟨_, _, dp_of da 60 x h1 ra, dp_of db 60 y h2 rb, shaped_pl h1, shaped_pl h2, ?_⟩
      rw [eqv_dec h1 h2]
      cases h3
      exact k _ fun _ => rep_bl
section
variable {X : Cx} {W : WX} {a b c e : Expr} {pos : Pos} {f f1 f2 f3 : EB}
theorem op_eqA (hu : X.A.units + 64 < cLine) : OpR X (compareOp .Eq) (rEqA X.K) := OpR.or op_eq (op_eqD hu)
theorem op_neA (hu : X.A.units + 64 < cLine) : OpR X (compareOp .NotEq) (rNeA X.K) := OpR.or op_ne (op_neD hu)

/-! ### None, in -/
def gIsN : D → D → Option D
  | .non, .non => some (.bl true)
  | _, .non => some (.bl false)
  | _, _ => none
def gNotN : D → D → Option D
  | .non, .non => some (.bl false)
  | _, .non => some (.bl true)
  | _, _ => none
theorem rep_isN {K : PySem.W.Frag} {d : D} {v : V} (r : Rep K H d v) : (v = .non) ↔ d = .non := by
  cases d <;> rw [Rep] at r <;> first
    | (subst r; simp; done)
    | (obtain ⟨rfl, _⟩ := r; simp; done)
    | (obtain ⟨_, _, rfl, _⟩ := r; simp; done)
    | (obtain ⟨_, _, _, rfl, _⟩ := r; simp; done)
theorem ok_isN : OpOk X.K (fun x y H Q => y = .non ∧ Q (.bl (decide (x = .non))) H) gIsN := by
  intro H da db d x y Q ra rb e k
  have h := rep_isN ra
  cases db
  case non =>
    rw [Rep] at rb
    refine ⟨rb, ?_⟩
    by_cases hd : da = .non
    · subst hd
      cases e
      rw [decide_eq_true (h.mpr rfl)]; exact k _ fun _ => rep_bl
    · have e' : d = .bl false := by cases da <;> first | exact absurd rfl hd | exact (Option.some.inj e).symm
      subst e'
      rw [decide_eq_false fun z => hd (h.mp z)]
      exact k _ fun _ => rep_bl
  all_goals (cases da <;> cases e)
theorem ok_notN : OpOk X.K (fun x y H Q => y = .non ∧ Q (.bl (!decide (x = .non))) H) gNotN := by
  intro H da db d x y Q ra rb e k
  have h := rep_isN ra
  cases db
  case non =>
    rw [Rep] at rb
    refine ⟨rb, ?_⟩
    by_cases hd : da = .non
    · subst hd
      cases e
      rw [decide_eq_true (h.mpr rfl)]; exact k _ fun _ => rep_bl
    · have e' : d = .bl true := by cases da <;> first | exact absurd rfl hd | exact (Option.some.inj e).symm
      subst e'
      rw [decide_eq_false fun z => hd (h.mp z)]
      exact k _ fun _ => rep_bl
  all_goals (cases da <;> cases e)
/-- x in a list or tuple of ints -/
def intsOf : List D → Option (List Int)
  | [] => some []
  | .int i :: r => (intsOf r).map fun l => i :: l
  | _ :: _ => none
theorem intsOf_eq : ∀ {ds : List D} {ns : List Int}, intsOf ds = some ns → ds = ns.map D.int
  | [], ns, h => by cases h; rfl
  | .int i :: r, ns, h => by
    unfold intsOf at h
    cases hr : intsOf r with
    | none => rw [hr] at h; cases h
    | some l => rw [hr] at h; cases h; rw [intsOf_eq hr]; rfl
  | .non :: _, ns, h => by cases h
  | .bl _ :: _, ns, h => by cases h
  | .str _ :: _, ns, h => by cases h
  | .lst _ :: _, ns, h => by cases h
  | .tup _ :: _, ns, h => by cases h
  | .rdl _ :: _, ns, h => by cases h
  | .ins _ _ :: _, ns, h => by cases h
  | .exo _ :: _, ns, h => by cases h
  | .exd _ _ _ :: _, ns, h => by cases h
theorem intsOf_ints : ∀ ns : List Int, intsOf (ns.map D.int) = some ns
  | [] => rfl
  | n :: ns => by show (intsOf (ns.map D.int)).map _ = _; rw [intsOf_ints ns]; rfl
def gIn (neg : Bool) : D → D → Option D
  | .int i, .lst ds => (intsOf ds).map fun ns => .bl (if neg then !decide (i ∈ ns) else decide (i ∈ ns))
  | .int i, .tup ds => (intsOf ds).map fun ns => .bl (if neg then !decide (i ∈ ns) else decide (i ∈ ns))
  | _, _ => none
theorem inV_ints (i : Int) : ∀ ns : List Int, inV (.int i) (ns.map V.int) = decide (i ∈ ns)
  | [] => rfl
  | n :: ns => by
    have ih := inV_ints i ns
    unfold inV at *
    rw [List.map_cons, List.any_cons, ih]
    have e : eqV (.int n) (.int i) = decide (n = i) := by
      simp only [eqV]; exact Bool.beq_eq_decide_eq _ _
    rw [e]
    by_cases h : n = i
    · subst h; simp
    · have h2 : ¬ i = n := fun z => h z.symm
      simp [h, h2]
theorem flat_ints : ∀ ns : List Int, (ns.map V.int).all flatV = true
  | [] => rfl
  | n :: ns => by rw [List.map_cons, List.all_cons, flat_ints ns]; rfl
theorem ok_in {neg : Bool} : OpOk X.K (rIn X.K neg) (gIn neg) := by
  intro H da db d x y Q ra rb e k
  cases da <;> first | cases e | skip
  rename_i i
  rw [Rep] at ra
  subst ra
  cases db <;> first | cases e | skip
  all_goals
    rename_i ds
    rw [Rep] at rb
    obtain ⟨p, xs, rfl, hp, rs⟩ := rb
    replace e : (intsOf ds).map (fun ns => D.bl (if neg then !decide (i ∈ ns) else decide (i ∈ ns))) = some d := e
    cases hi : intsOf ds with
    | none => rw [hi] at e; cases e
    | some ns =>
      rw [hi] at e
      have ed := (Option.some.inj e).symm
      have e1 := intsOf_eq hi
      subst e1
      have e2 := reps_ints rs
      subst e2
      refine ⟨p, _, rfl, by first | exact .inl (SqL.of hp) | exact .inr (SqT.of hp), rfl, flat_ints ns, ?_⟩
      rw [inV_ints]
      subst ed
      exact k _ fun _ => rep_bl

/-! ### subscripts -/
def ixD (n : Nat) : D → D → Option (Nat × D)
  | .lst ds, .int i => (atI ds i).map fun d => (n - 1, d)
  | .tup ds, .int i => (atI ds i).map fun d => (0, d)
  | .rdl ds, .int i => (atI ds i).map fun d => (0, d)
  | .str x, .int i => if x.length ≤ sizeLine then (atI x.cps.toList i).map fun c => (0, .str ⟨#[c]⟩) else none
  | _, _ => none
def eIx (f1 f2 : EB) : EB := fun ss => match f1 ss with
  | .ok (n, a) => (match f2 ss with
    | .ok (_, b) => (match ixD n a b with
      | some r => .ok r
      | none => .no)
    | .exc e => .exc e
    | .no => .no)
  | .exc e => .exc e
  | .no => .no
theorem atI_map {α β : Type} {xs : List α} {ys : List β} {i : Int} {x : α} (hl : xs.length = ys.length) (h : atI xs i = some x) : ∃ j : Nat, xs[j]? = some x ∧ ∀ y, ys[j]? = some y → atI ys i = some y := by
  unfold atI at h
  cases hi : ixN xs.length i with
  | none => rw [hi] at h; cases h
  | some j =>
    rw [hi] at h
    refine ⟨j, h, fun y hy => ?_⟩
    unfold atI
    rw [← hl, hi]
    exact hy
theorem ixD_ok {K : PySem.W.Frag} {B H : Hp} {n m : Nat} {da db d : D} {x y : V} {Q : VK} (bh : Le B H) (ba : Bw K B H n da x) (rb : Rep K H db y) (e : ixD n da db = some (m, d)) (k : ∀ v, Bw K B H m d v → Q v H) : rIx K x y H Q := by
  cases db <;> first | (cases da <;> cases e) | skip
  rename_i i
  rw [Rep] at rb
  subst rb
  cases da <;> first | cases e | skip
  case lst ds =>
    replace e : (atI ds i).map (fun d => ((n - 1 : Nat), d)) = some (m, d) := e
    obtain ⟨p, xs, rfl, hp, hl, hx⟩ := ba.list bh
    cases hi : atI ds i with
    | none => rw [hi] at e; cases e
    | some d0 =>
      rw [hi] at e
      cases e
      obtain ⟨j, h1, h2⟩ := atI_map hl hi
      obtain ⟨v, h3, h4⟩ := hx j _ h1
      exact .inl ⟨p, xs, i, v, rfl, rfl, SqL.of hp, h2 v h3, k v h4⟩
  case tup ds =>
    replace e : (atI ds i).map (fun d => ((0 : Nat), d)) = some (m, d) := e
    cases hi : atI ds i with
    | none => rw [hi] at e; cases e
    | some d0 =>
      rw [hi] at e
      cases e
      obtain ⟨fp, ow⟩ := ba
      cases n with
      | succ n => obtain ⟨_, _, _, _, z, _⟩ := ow; cases z
      | zero =>
        obtain ⟨_, r⟩ := ow
        rw [Rep] at r
        obtain ⟨p, xs, rfl, hp, rs⟩ := r
        obtain ⟨j, h1, h2⟩ := atI_map rs.length hi
        obtain ⟨v, h3, h4⟩ := rs.get h1
        exact .inr (.inl ⟨p, xs, i, v, rfl, rfl, SqT.of (bh _ _ hp), h2 v h3, k v (bw0 h4)⟩)
  case rdl ds =>
    replace e : (atI ds i).map (fun d => ((0 : Nat), d)) = some (m, d) := e
    cases hi : atI ds i with
    | none => rw [hi] at e; cases e
    | some d0 =>
      rw [hi] at e
      cases e
      obtain ⟨fp, ow⟩ := ba
      cases n with
      | succ n => obtain ⟨_, _, _, _, z, _⟩ := ow; cases z
      | zero =>
        obtain ⟨_, r⟩ := ow
        rw [Rep] at r
        obtain ⟨p, xs, rfl, hp, rs⟩ := r
        obtain ⟨j, h1, h2⟩ := atI_map rs.length hi
        obtain ⟨v, h3, h4⟩ := rs.get h1
        exact .inl ⟨p, xs, i, v, rfl, rfl, bh.sqL hp, h2 v h3, k v (bw0 h4)⟩
  case str x =>
    replace e : (if x.length ≤ sizeLine then (atI x.cps.toList i).map fun c => ((0 : Nat), D.str ⟨#[c]⟩) else none) = some (m, d) := e
    have hz := ba.flat (B' := H) rfl
    rw [Rep] at hz
    subst hz
    by_cases hs : x.length ≤ sizeLine
    · rw [if_pos hs] at e
      cases hi : atI x.cps.toList i with
      | none => rw [hi] at e; cases e
      | some c =>
        rw [hi] at e
        cases e
        exact .inr (.inr ⟨x, i, c, rfl, rfl, hs, hi, k _ (bw0 rep_str)⟩)
    · rw [if_neg hs] at e; cases e
theorem b_ix (ha : PE X a (tB X.K W f1)) (hb : PE X b (tB X.K W f2)) (hs : PlainIx b := by exact fun _ _ => rfl) : PE X (.Subscript a b pos) (tB X.K W (eIx f1 f2)) := by
  refine pe_w (pe_ix ix_seq ha hb hs) fun σ H Q hq => tB_cut hq fun B ss fps pi k => ?_
  unfold eIx at k
  cases h1 : f1 ss with
  | ok r1 =>
    obtain ⟨n1, d1⟩ := r1
    rw [h1] at k
    intro B1 x H1 s1 bx
    cases h2 : f2 ss with
    | ok r2 =>
      obtain ⟨n2, d2⟩ := r2
      rw [h2] at k
      refine tB_ok (pi.step s1) h2 fun B2 y H2 s2 bY => ?_
      cases hh : ixD n1 d1 d2 with
      | some r =>
        obtain ⟨m, d⟩ := r
        simp only [hh] at k
        exact ixD_ok s2.bh (bx.le s2.bb s2.hh) (bY.here s2.bh) hh fun v bv => k B2 v H2 (s1.trans s2) bv
      | none => simp only [hh] at k
    | exc e => rw [h2] at k; exact tB_exc (pi.step s1) h2 fun B2 cls dd H2 s2 ex => k B2 cls dd H2 (s1.trans s2) ex
    | no => rw [h2] at k; exact k.elim
  | exc e => rw [h1] at k; exact k
  | no => rw [h1] at k; exact k
end
end Mv

namespace Mv
open PySem L2

/-! ### new lists, new tuples -/
section
variable {K : PySem.W.Frag} {B H B1 H1 : Hp}
theorem all_of_reps : ∀ {ds : List D} {xs : List V}, Reps K B ds xs → All3 (Ow K B H 0) ds xs (ds.map fun _ => [])
  | [], xs, h => by rw [Reps] at h; subst h; exact .nil
  | d :: ds, xs, h => by
    rw [Reps] at h; obtain ⟨v, vs, rfl, h1, h2⟩ := h
    exact .cons ⟨rfl, h1⟩ (all_of_reps h2)
theorem reps_of_all : ∀ {ds : List D} {xs : List V} {fps : List (List Addr)}, All3 (Ow K B H 0) ds xs fps → Reps K B ds xs
  | _, _, _, .nil => reps_nil
  | _, _, _, .cons r t => reps_cons r.2 (reps_of_all t)
theorem flat_nils {α β : Type} : ∀ ds : List α, (ds.map fun _ => ([] : List β)).flatten = []
  | [] => rfl
  | _ :: ds => by rw [List.map_cons, List.flatten_cons, flat_nils ds]; rfl
theorem new_list {ds : List D} {xs : List V} {p : Addr} (st : Stp B H B1 H1) (rs : Reps K B1 ds xs) (hp : H1 p = none) :
    Stp B H B1 (upd H1 p (.lst xs)) ∧ New K H B1 (upd H1 p (.lst xs)) 1 (.lst ds) (.ref p) [p] := by
  refine ⟨⟨st.bb, st.hh.trans (Le.new hp), st.bh.trans (Le.new hp), st.dj⟩, ⟨⟨ds, p, xs, ds.map fun _ => [], rfl, rfl, upd_same, by rw [flat_nils], all_of_reps rs⟩, List.nodup_cons.mpr ⟨(fun z => nomatch z), List.nodup_nil⟩, fun a ha => ?_⟩⟩
  rw [List.mem_singleton] at ha
  subst ha
  exact ⟨st.bh.back hp, st.hh.back hp⟩
theorem new_tup {ds : List D} {xs : List V} {p : Addr} (st : Stp B H B1 H1) (rs : Reps K B1 ds xs) (hp : H1 p = none) :
    Stp B H (upd B1 p (.tup xs)) (upd H1 p (.tup xs)) ∧ Rep K (upd B1 p (.tup xs)) (.tup ds) (.ref p) := by
  have e : Le B1 (upd B1 p (.tup xs)) := Le.new (st.bh.back hp)
  refine ⟨⟨st.bb.trans e, st.hh.trans (Le.new hp), fun a o h => ?_, fun a h1 h2 => ?_⟩, ?_⟩
  · by_cases ha : a = p
    · subst ha; rw [upd_same] at *; exact h
    · rw [upd_ne ha] at *; exact st.bh a o h
  · have ha : a ≠ p := fun z => by obtain ⟨xs, h2⟩ := h2; rw [z, st.hh.back hp] at h2; cases h2
    rw [upd_ne ha]; exact st.dj a h1 h2
  · rw [Rep]; exact ⟨p, xs, rfl, upd_same, Reps.mono e _ _ rs⟩
/-- a list at most one level deep: its items stand in the base -/
theorem Bw.items (bh : Le B H) {n : Nat} {ds : List D} {v : V} (hn : n ≤ 1) (h : Bw K B H n (.lst ds) v) : ∃ p xs, v = .ref p ∧ H p = some (.lst xs) ∧ Reps K B ds xs := by
  obtain ⟨fp, h⟩ := h
  match n, hn, h with
  | 0, _, h =>
    obtain ⟨_, h⟩ := h
    rw [Rep] at h
    obtain ⟨a, xs, h1, h2, h3⟩ := h
    exact ⟨a, xs, h1, bh _ _ h2, h3⟩
  | 1, _, h =>
    obtain ⟨ds', p, xs, fps, e, h1, hp, _, al⟩ := h
    cases e
    exact ⟨p, xs, h1, hp, reps_of_all al⟩
end
def eLst (ga : EA) : EB := fun ss => match ga ss with
  | .ok ds => if ds.length ≤ 10000000 then .ok (1, .lst ds) else .no
  | .exc e => .exc e
  | .no => .no
def eTup (ga : EA) : EB := fun ss => match ga ss with
  | .ok ds => if ds.length ≤ 10000000 then .ok (0, .tup ds) else .no
  | .exc e => .exc e
  | .no => .no
theorem size_ok {n : Nat} (h : n ≤ 10000000) : n ≤ sizeLine := by rw [sizeLine_eq]; omega
section
variable {X : Cx} {W : WX} {a b c e : Expr} {es : List Expr} {pos : Pos} {f f1 f2 f3 : EB} {g1 : EA}
theorem m_lst (h : PA X es (tA X.K W g1)) : PE X (.List es pos) (tM X.K W (eLst g1)) := by
  refine pe_w (pe_lst h) fun σ H Q hq => ?_
  obtain ⟨B, ss, fps, pi, k⟩ := hq
  refine ⟨B, ss, fps, pi, ?_⟩
  unfold eLst at k
  cases h : g1 ss with
  | ok ds =>
    rw [h] at k
    intro B1 vs H1 s1 rs
    by_cases hz : ds.length ≤ 10000000
    · simp only [hz, if_true] at k
      refine ⟨by rw [← rs.length]; exact size_ok hz, fun p hp => ?_⟩
      obtain ⟨q1, q2⟩ := new_list s1 rs hp
      exact k _ _ _ _ q1 q2
    · simp only [hz, if_false] at k
  | exc e => rw [h] at k; exact k
  | no => rw [h] at k; exact k
theorem b_tup {x1 : Nat} (h : PA X es (tA X.K W g1)) : PE X (.Tuple es x1 pos) (tB X.K W (eTup g1)) := by
  refine pe_w (pe_tup h) fun σ H Q hq => ?_
  obtain ⟨B, ss, fps, pi, k⟩ := hq
  refine ⟨B, ss, fps, pi, ?_⟩
  unfold eTup at k
  cases h : g1 ss with
  | ok ds =>
    rw [h] at k
    intro B1 vs H1 s1 rs
    by_cases hz : ds.length ≤ 10000000
    · simp only [hz, if_true] at k
      refine ⟨by rw [← rs.length]; exact size_ok hz, fun p hp => ?_⟩
      obtain ⟨q1, q2⟩ := new_tup s1 rs hp
      exact k _ _ _ q1 (bw0 q2)
    · simp only [hz, if_false] at k
  | exc e => rw [h] at k; exact k
  | no => rw [h] at k; exact k

/-! ### slices of lists -/
end
abbrev EP := En → Res (Option Int)
def tP (K : PySem.W.Frag) (W : WX) (f : EP) : TO := fun σ H Q => ∃ B ss fps, Pi K B σ H ss fps ∧ match f ss with
  | .ok o => ∀ B' H', Stp B H B' H' → Q o H'
  | .exc e => ∀ B' cls dd H', Stp B H B' H' → ExR K B' H' e cls dd → W cls dd σ H'
  | .no => False
def pNone : EP := fun _ => .ok none
def pSome (f : EB) : EP := fun ss => match f ss with
  | .ok (_, .int i) => .ok (some i)
  | .ok (_, _) => .no
  | .exc e => .exc e
  | .no => .no
def cutD (ds : List D) (lo hi : Option Int) : List D := (ds.drop (HT.sIx ds.length 0 lo)).take (HT.sIx ds.length ds.length hi - HT.sIx ds.length 0 lo)
def eSl (f : EB) (l h : EP) : EB := fun ss => match f ss with
  | .ok (n, .lst ds) => if n ≤ 1 then (match l ss with
    | .ok lo => (match h ss with
      | .ok hi => .ok (1, .lst (cutD ds lo hi))
      | .exc e => .exc e
      | .no => .no)
    | .exc e => .exc e
    | .no => .no) else .no
  | .ok (_, _) => .no
  | .exc e => .exc e
  | .no => .no
section
variable {X : Cx} {W : WX} {a b c e : Expr} {es : List Expr} {pos p2 : Pos} {f f1 f2 f3 : EB} {g1 : EA} {lo hi : Option Expr} {l h : EP}
theorem po_w {o : Option Expr} {t u : TO} (h : PO X o t) (k : ∀ σ H Q, u σ H Q → t σ H Q) : PO X o u := ⟨fun pins s σ H Q I q => h.run pins s σ H Q I (k σ H Q q)⟩
theorem o_none : PO X none (tP X.K W pNone) := by
  refine po_w po_none fun σ H Q hq => ?_
  obtain ⟨B, ss, fps, pi, k⟩ := hq
  exact k B H (.refl pi.bh)
theorem o_some (h : PE X e (tB X.K W f)) : PO X (some e) (tP X.K W (pSome f)) := by
  refine po_w (po_some h) fun σ H Q hq => ?_
  obtain ⟨B, ss, fps, pi, k⟩ := hq
  refine ⟨B, ss, fps, pi, ?_⟩
  unfold pSome at k
  cases h : f ss with
  | ok r =>
    obtain ⟨n, d⟩ := r
    rw [h] at k
    cases d <;> first | exact k.elim | skip
    rename_i i
    intro B1 v H1 s1 bw
    have e := bw.flat (B' := B1) rfl
    rw [Rep] at e
    exact ⟨i, e, k B1 H1 s1⟩
  | exc e => rw [h] at k; exact k
  | no => rw [h] at k; exact k
theorem tP_step {K : PySem.W.Frag} {W : WX} {σ : L2.St} {H B B1 H1 : Hp} {ss : En} {fps : List (List Addr)} {f : EP} {Q : Option Int → Hp → Prop} (pi : Pi K B σ H ss fps) (s1 : Stp B H B1 H1)
    (k : match f ss with
      | .ok o => ∀ B' H', Stp B H B' H' → Q o H'
      | .exc e => ∀ B' cls dd H', Stp B H B' H' → ExR K B' H' e cls dd → W cls dd σ H'
      | .no => False) : tP K W f σ H1 Q := by
  refine ⟨B1, ss, fps, pi.step s1, ?_⟩
  cases h : f ss with
  | ok o => rw [h] at k; exact fun B' H' s => k B' H' (s1.trans s)
  | exc e => rw [h] at k; exact fun B' cls dd H' s ex => k B' cls dd H' (s1.trans s) ex
  | no => rw [h] at k; exact k.elim
theorem cut_reps {K : PySem.W.Frag} {B : Hp} {ds : List D} {xs : List V} (rs : Reps K B ds xs) (lo hi : Option Int) : Reps K B (cutD ds lo hi) (cutV xs lo hi) := by
  unfold cutD cutV
  rw [rs.length]
  exact (rs.drop _).take _
theorem m_sl (he : PE X e (tB X.K W f)) (hl : PO X lo (tP X.K W l)) (hh : PO X hi (tP X.K W h)) : PE X (.Subscript e (.Slice lo hi none p2) pos) (tM X.K W (eSl f l h)) := by
  refine pe_w (pe_slice sl_list he hl hh) fun σ H Q hq => ?_
  obtain ⟨B, ss, fps, pi, k⟩ := hq
  refine ⟨B, ss, fps, pi, ?_⟩
  unfold eSl at k
  cases h1 : f ss with
  | ok r =>
    obtain ⟨n, d⟩ := r
    rw [h1] at k
    cases d <;> first | exact k.elim | skip
    rename_i ds
    by_cases hn : n ≤ 1
    · simp only [hn, if_true] at k
      intro B1 v H1 s1 bw
      cases h2 : l ss with
      | ok lo =>
        rw [h2] at k
        refine ⟨B1, ss, fps, pi.step s1, ?_⟩
        rw [h2]
        intro B2 H2 s2
        cases h3 : h ss with
        | ok hi =>
          simp only [h3] at k
          refine ⟨B2, ss, fps, (pi.step s1).step s2, ?_⟩
          rw [h3]
          intro B3 H3 s3
          obtain ⟨p, xs, rfl, hp, rs⟩ := ((bw.le s2.bb s2.hh).le s3.bb s3.hh).items s3.bh hn
          refine ⟨p, xs, rfl, SqL.of hp, fun q hq => ?_⟩
          obtain ⟨q1, q2⟩ := new_list ((s1.trans s2).trans s3) (cut_reps rs lo hi) hq
          exact k _ _ _ _ q1 q2
        | exc e => simp only [h3] at k; exact ⟨B2, ss, fps, (pi.step s1).step s2, by rw [h3]; exact fun B' cls dd H' s ex => k B' cls dd H' ((s1.trans s2).trans s) ex⟩
        | no => simp only [h3] at k
      | exc e => rw [h2] at k; exact ⟨B1, ss, fps, pi.step s1, by rw [h2]; exact fun B' cls dd H' s ex => k B' cls dd H' (s1.trans s) ex⟩
      | no => rw [h2] at k; exact k.elim
    · simp only [hn, if_false] at k
  | exc e => rw [h1] at k; exact k
  | no => rw [h1] at k; exact k
end
end Mv

namespace Mv
open PySem L2

/-! ### slots change -/
section
variable {K : PySem.W.Frag} {B0 H0 B B' H H' : Hp} {σ : St} {ss : En} {fps : List (List Addr)}
theorem nodup_set {fps : List (List Addr)} {fp : List Addr} (h : fps.flatten.Nodup) (hf : fp.Nodup) : ∀ (i : Nat), (∀ c, fps[i]? ≠ some c → True) → (∀ a ∈ fp, ∀ c ∈ fps, a ∈ c → ∃ o, fps[i]? = some o ∧ a ∈ o) → (fps.set i fp).flatten.Nodup := by
  induction fps with
  | nil => intro i _ _; simp
  | cons c cs ih =>
    intro i _ hd
    rw [List.flatten_cons] at h
    obtain ⟨h1, h2, h3⟩ := List.nodup_append.mp h
    cases i with
    | zero =>
      rw [List.set_cons_zero, List.flatten_cons]
      refine List.nodup_append.mpr ⟨hf, h2, fun a ha b hb e => ?_⟩
      subst e
      obtain ⟨c', hc', hac'⟩ := List.mem_flatten.mp hb
      obtain ⟨o, ho, hao⟩ := hd a ha c' (List.mem_cons_of_mem _ hc') hac'
      simp at ho
      subst ho
      exact h3 a hao a hb rfl
    | succ i =>
      rw [List.set_cons_succ, List.flatten_cons]
      have hd' : ∀ a ∈ fp, ∀ c' ∈ cs, a ∈ c' → ∃ o, cs[i]? = some o ∧ a ∈ o := fun a ha c' hc' hac' => by
        obtain ⟨o, ho, hao⟩ := hd a ha c' (List.mem_cons_of_mem _ hc') hac'
        exact ⟨o, by simpa using ho, hao⟩
      refine List.nodup_append.mpr ⟨h1, ih h2 i (fun _ _ => True.intro) hd', fun a ha b hb e => ?_⟩
      subst e
      obtain ⟨c', hc', hac'⟩ := List.mem_flatten.mp hb
      have hm : c' ∈ cs ∨ c' = fp := by
        rcases List.mem_or_eq_of_mem_set hc' with z | z
        · exact .inl z
        · exact .inr z
      rcases hm with z | z
      · exact h3 a ha a (mem_fl z hac') rfl
      · subst z
        obtain ⟨o, ho, hao⟩ := hd a hac' c List.mem_cons_self ha
        have ho' : cs[i]? = some o := by simpa using ho
        exact h3 a ha a (mem_fl (List.mem_of_getElem? ho') hao) rfl
theorem nd_mem : ∀ {fps : List (List Addr)} {fp : List Addr}, fps.flatten.Nodup → fp ∈ fps → fp.Nodup
  | [], _, _, h => nomatch h
  | c :: cs, fp, nd, h => by
    rw [List.flatten_cons] at nd
    obtain ⟨n1, n2, _⟩ := List.nodup_append.mp nd
    obtain e | e := List.mem_cons.mp h
    · rw [e]; exact n1
    · exact nd_mem n2 e
theorem mem_set_fl {fps : List (List Addr)} {fp : List Addr} {i : Nat} {a : Addr} (h : a ∈ (fps.set i fp).flatten) : a ∈ fps.flatten ∨ a ∈ fp := by
  obtain ⟨c, hc, hac⟩ := List.mem_flatten.mp h
  rcases List.mem_or_eq_of_mem_set hc with z | z
  · exact .inl (mem_fl z hac)
  · subst z; exact .inr hac
/-- a fresh value goes into a slot -/
theorem SI.store (h : SI K B0 H0 B σ H ss fps) (st : Stp B H B' H') {n : Nat} {d : D} {v : V} {fp : List Addr} (nw : New K H B' H' n d v fp) (i : Nat) : SI K B0 H0 B' (σ.set i (some v)) H' (ss.set i (.v n d)) (fps.set i fp) := by
  have h' := h.step st
  have fresh : ∀ a ∈ fp, a ∉ fps.flatten := fun a ha hm => by
    obtain ⟨xs, e⟩ := h.pi.here a hm
    rw [(nw.fr a ha).2] at e; cases e
  refine ⟨⟨h'.pi.bh, h'.pi.al.set (a := Sl.v n d) (b := some v) ⟨v, rfl, nw.ow⟩ i, nodup_set h'.pi.nd nw.nd i (fun _ _ => True.intro) fun a ha c hc hac => absurd (mem_fl hc hac) (fresh a ha), fun a ha => ?_⟩, h'.st, fun a ha => ?_⟩
  · rcases mem_set_fl ha with z | z
    · exact h'.pi.fr a z
    · exact (nw.fr a z).1
  · rcases mem_set_fl ha with z | z
    · exact h'.fr a z
    · exact h.st.hh.back (nw.fr a z).2
/-- the slots of a def at its start -/
theorem all_start : ∀ {ds : List D} {vs : List V}, Reps K B ds vs → All3 (slotOk K B H) (ds.map (Sl.v 0)) (vs.map some) (ds.map fun _ => [])
  | [], vs, h => by rw [Reps] at h; subst h; exact .nil
  | d :: ds, vs, h => by
    rw [Reps] at h; obtain ⟨v, us, rfl, h1, h2⟩ := h
    exact .cons ⟨v, rfl, rfl, h1⟩ (all_start h2)
theorem all_un : ∀ n : Nat, All3 (slotOk K B H) (List.replicate n Sl.un) (List.replicate n none) (List.replicate n [])
  | 0 => .nil
  | n + 1 => .cons rfl (all_un n)
theorem flat_reps {α : Type} : ∀ n : Nat, (List.replicate n ([] : List α)).flatten = []
  | 0 => rfl
  | n + 1 => by rw [List.replicate_succ, List.flatten_cons, flat_reps n]; rfl
theorem SI.start {ds : List D} {vs : List V} (bh : Le B H) (rs : Reps K B ds vs) (n : Nat) : SI K B H B (vs.map some ++ List.replicate n none) H (ds.map (Sl.v 0) ++ List.replicate n .un) (ds.map (fun _ => []) ++ List.replicate n []) := by
  have e : (ds.map (fun _ => ([] : List Addr)) ++ List.replicate n []).flatten = [] := by rw [List.flatten_append, flat_nils, flat_reps]; rfl
  refine ⟨⟨bh, (all_start rs).append (all_un n), by rw [e]; exact List.nodup_nil, fun a ha => ?_⟩, .refl bh, fun a ha => ?_⟩
  · rw [e] at ha; cases ha
  · rw [e] at ha; cases ha
end

/-! ### statements -/
def sSeq (F G : SM) : SM := fun ss => match F ss with
  | .nx s' => G s'
  | o => o
def sNext : SM := .nx
def sAsg (i : Nat) (f : EB) : SM := fun ss => match f ss with
  | .ok (n, d) => .nx (ss.set i (.v n d))
  | .exc e => .exc e ss
  | .no => .no
def sRet (f : EB) : SM := fun ss => match f ss with
  | .ok (n, d) => .rt n d
  | .exc e => .exc e ss
  | .no => .no
def sRetN : SM := fun _ => .rt 0 .non
def sDrop (f : EB) : SM := fun ss => match f ss with
  | .ok _ => .nx ss
  | .exc e => .exc e ss
  | .no => .no
def sIf (t : ET) (F G : SM) : SM := fun ss => match t ss with
  | .ok true => F ss
  | .ok false => G ss
  | .exc e => .exc e ss
  | .no => .no
def sBrk : SM := .bk
def sCt : SM := .ct
/-- return x: what the slot owns goes out -/
def sRetV (i : Nat) : SM := fun ss => match ss[i]? with
  | some (.v n d) => .rt n d
  | _ => .no
def sNo : SM := fun _ => .no
section
variable {X : Cx} {W : WX} {a b c e : Expr} {st : Stmt} {rest : List Stmt} {pos : Pos} {f f1 f2 f3 : EB} {t1 : ET} {F G : SM}
theorem seq_of {D : Ends} {σ : L2.St} {H : Hp} (hq : tS X.K W (sSeq F G) D σ H) : tSeq (tS X.K W F) (tS X.K W G) D σ H := by
  obtain ⟨B0, H0, B, ss, fps, si, k⟩ := hq
  refine ⟨B0, H0, B, ss, fps, si, ?_⟩
  unfold sSeq at k
  cases h : F ss with
  | nx s' =>
    rw [h] at k
    intro B1 σ1 H1 fps1 si1
    exact ⟨B0, H0, B1, s', fps1, si1, k⟩
  | rt n d => rw [h] at k; exact k
  | bk s' => rw [h] at k; exact k
  | ct s' => rw [h] at k; exact k
  | exc e s' => rw [h] at k; exact k
  | ru d s' => rw [h] at k; exact k
  | no => rw [h] at k; exact k
theorem ss_nil : PSs X [] (tS X.K W sNext) := by
  refine pss_w pss_nil fun D σ H hq => ?_
  obtain ⟨B0, H0, B, ss, fps, si, k⟩ := hq
  exact k B σ H fps si
theorem ss_cons (h1 : PS X st (tS X.K W F)) (h2 : PSs X rest (tS X.K W G)) : PSs X (st :: rest) (tS X.K W (sSeq F G)) := pss_w (pss_cons h1 h2) fun D σ H hq => seq_of hq
theorem ss_one (h1 : PS X st (tS X.K W F)) : PSs X [st] (tS X.K W F) := pss_one h1
theorem s_pass : PS X (.Pass pos) (tS X.K W sNext) := by
  refine ps_w ps_pass fun D σ H hq => ?_
  obtain ⟨B0, H0, B, ss, fps, si, k⟩ := hq
  exact k B σ H fps si
theorem s_brk : PS X (.Break pos) (tS X.K W sBrk) := by
  refine ps_w ps_break fun D σ H hq => ?_
  obtain ⟨B0, H0, B, ss, fps, si, k⟩ := hq
  exact k B σ H fps si
theorem s_ct : PS X (.Continue pos) (tS X.K W sCt) := by
  refine ps_w ps_continue fun D σ H hq => ?_
  obtain ⟨B0, H0, B, ss, fps, si, k⟩ := hq
  exact k B σ H fps si
theorem s_no {st : Stmt} : PS X st (tS X.K W sNo) := ps_w ps_never fun D σ H hq => by
  obtain ⟨B0, H0, B, ss, fps, si, k⟩ := hq
  exact k
theorem asg_of {i : Nat} {D : Ends} {σ : L2.St} {H : Hp} (hq : tS X.K W (sAsg i f) D σ H) : tAsg (tM X.K W f) (gName i) D σ H := by
  obtain ⟨B0, H0, B, ss, fps, si, k⟩ := hq
  refine ⟨B, ss, fps, si.pi, ?_⟩
  unfold sAsg at k
  cases h : f ss with
  | ok r =>
    obtain ⟨n, d⟩ := r
    rw [h] at k
    exact fun B' v H' fp st nw => k B' _ H' _ (si.store st nw i)
  | exc e => rw [h] at k; exact fun B' cls dd H' st ex => k B' σ H' fps cls dd (si.step st) ex
  | no => rw [h] at k; exact k
theorem s_set {i : Nat} {x : Str} {pos' : Pos} (hN : X.N.Nodup) (hi : X.N[i]? = some x) (hx : Loc X.env.scope x) (he : PE X e (tM X.K W f)) (hs : swapsWith e (some (.Name x pos')) pos.line X.env = pure false := by rfl) (hf : X.fn x = true ∨ X.env.scope.names.lookup x = some .local := by first | exact .inl rfl | exact .inr rfl | assumption) :
    PS X (.Assign [.Name x pos'] e pos) (tS X.K W (sAsg i f)) := ps_w (ps_set hN hi hx he hs hf) fun D σ H hq => asg_of hq
theorem s_ret (he : PE X e (tM X.K W f)) : PS X (.Return (some e) pos) (tS X.K W (sRet f)) := by
  refine ps_w (ps_ret he) fun D σ H hq => ?_
  obtain ⟨B0, H0, B, ss, fps, si, k⟩ := hq
  refine ⟨B, ss, fps, si.pi, ?_⟩
  unfold sRet at k
  cases h : f ss with
  | ok r =>
    obtain ⟨n, d⟩ := r
    rw [h] at k
    exact fun B' v H' fp st nw => k B' v H' fp (si.st.trans st) ⟨nw.ow, nw.nd, fun a ha => ⟨(nw.fr a ha).1, si.st.hh.back (nw.fr a ha).2⟩⟩
  | exc e => rw [h] at k; exact fun B' cls dd H' st ex => k B' σ H' fps cls dd (si.step st) ex
  | no => rw [h] at k; exact k
theorem s_retN : PS X (.Return none pos) (tS X.K W sRetN) := by
  refine ps_w ps_retN fun D σ H hq => ?_
  obtain ⟨B0, H0, B, ss, fps, si, k⟩ := hq
  exact k B .non H [] si.st ⟨⟨rfl, rep_non⟩, List.nodup_nil, fun a z => nomatch z⟩
theorem s_retV (i : Nat) {x : Str} {p : Pos} (hN : X.N[i]? = some x := by rfl) (hv : Vis X.env.scope x := by first | exact Or.inl rfl | exact Or.inr (Or.inl rfl) | exact Or.inr (Or.inr rfl)) (hd : (x == ("__debug__" : Str)) = false := by decide)
    (hcd : (x == ("__classdict__" : Str)) = false := by decide) : PS X (.Return (some (.Name x p)) pos) (tS X.K W (sRetV i)) := by
  refine ps_w (ps_ret (pe_var hN hv hd hcd)) fun D σ H hq => ?_
  obtain ⟨B0, H0, B, ss, fps, si, k⟩ := hq
  unfold sRetV at k
  cases hs : ss[i]? with
  | none => rw [hs] at k; exact k.elim
  | some s =>
    rw [hs] at k
    cases s with
    | un => exact k.elim
    | o w n d => exact k.elim
    | v n d =>
      obtain ⟨o, fp, h1, h2, v, h3, h4⟩ := si.pi.al.get hs
      subst h3
      have hm : fp ∈ fps := List.mem_of_getElem? h2
      exact ⟨v, h1, k B v H fp si.st ⟨h4, nd_mem si.pi.nd hm, fun a ha => ⟨si.pi.fr a (mem_fl hm ha), si.fr a (mem_fl hm ha)⟩⟩⟩
theorem s_drop (he : PE X e (tB X.K W f)) (hs : swapsWith e none pos.line X.env = pure false := by rfl) : PS X (.Expr e pos) (tS X.K W (sDrop f)) := by
  refine ps_w (ps_expr he hs) fun D σ H hq => ?_
  obtain ⟨B0, H0, B, ss, fps, si, k⟩ := hq
  refine ⟨B, ss, fps, si.pi, ?_⟩
  unfold sDrop at k
  cases h : f ss with
  | ok r => rw [h] at k; exact fun B' v H' st _ => k B' σ H' fps (si.step st)
  | exc e => rw [h] at k; exact fun B' cls dd H' st ex => k B' σ H' fps cls dd (si.step st) ex
  | no => rw [h] at k; exact k
theorem tS_step {K : PySem.W.Frag} {B0 H0 B B1 H H1 : Hp} {ss : En} {fps : List (List Addr)} {D : Ends} {σ : L2.St} (si : SI K B0 H0 B σ H ss fps) (s1 : Stp B H B1 H1)
    (k : match F ss with
      | .nx ss' => ∀ B' σ' H' fps', SI K B0 H0 B' σ' H' ss' fps' → D.nx σ' H'
      | .bk ss' => ∀ B' σ' H' fps', SI K B0 H0 B' σ' H' ss' fps' → D.bk σ' H'
      | .ct ss' => ∀ B' σ' H' fps', SI K B0 H0 B' σ' H' ss' fps' → D.ct σ' H'
      | .rt n d => ∀ B' v H' fp, Stp B0 H0 B' H' → New K H0 B' H' n d v fp → D.rt v H'
      | .exc e ss' => ∀ B' σ' H' fps' cls dd, SI K B0 H0 B' σ' H' ss' fps' → ExR K B' H' e cls dd → W cls dd σ' H'
      | .ru d ss' => ∀ B' v σ' H' fps', SI K B0 H0 B' σ' H' ss' fps' → Rep K B' d v → D.rt v H'
      | .no => False) : tS K W F D σ H1 := ⟨B0, H0, B1, ss, fps, si.step s1, k⟩
theorem s_if {xs ys : List Stmt} (hc : PT X c (tT X.K W t1)) (ha : PSs X xs (tS X.K W F)) (hb : PSs X ys (tS X.K W G)) : PS X (.If c xs ys pos) (tS X.K W (sIf t1 F G)) := by
  refine ps_w (ps_if hc ha hb) fun D σ H hq => ?_
  obtain ⟨B0, H0, B, ss, fps, si, k⟩ := hq
  refine ⟨B, ss, fps, si.pi, ?_⟩
  unfold sIf at k
  cases h : t1 ss with
  | ok b =>
    rw [h] at k
    cases b with
    | true => exact fun B1 H1 s1 => tS_step si s1 k
    | false => exact fun B1 H1 s1 => tS_step si s1 k
  | exc e => rw [h] at k; exact fun B' cls dd H' st ex => k B' σ H' fps cls dd (si.step st) ex
  | no => rw [h] at k; exact k
end

/-! ### freezing a slot -/
def frzSl (i : Nat) (ss : En) : En := match ss[i]? with
  | some (.v _ d) => ss.set i (.v 0 d)
  | _ => ss
def sFrz (i : Nat) (F : SM) : SM := fun ss => F (frzSl i ss)
section
variable {K : PySem.W.Frag} {B0 H0 B B' H H' : Hp} {σ : St} {ss : En} {fps : List (List Addr)}
theorem set_same {α : Type} : ∀ {xs : List α} {k : Nat} {x : α}, xs[k]? = some x → xs.set k x = xs
  | [], _, _, h => by simp at h
  | y :: ys, 0, _, h => by simp at h; subst h; rfl
  | y :: ys, k + 1, x, h => congrArg (y :: ·) (set_same (xs := ys) (k := k) (x := x) (by simpa using h))
theorem SI.freeze (h : SI K B0 H0 B σ H ss fps) (i : Nat) : ∃ B' fps', SI K B0 H0 B' σ H (frzSl i ss) fps' := by
  unfold frzSl
  cases hs : ss[i]? with
  | none => exact ⟨B, fps, h⟩
  | some s =>
    cases s with
    | un => exact ⟨B, fps, h⟩
    | o w n d => exact ⟨B, fps, h⟩
    | v n d =>
      obtain ⟨o, fp, h1, h2, v, h3, h4⟩ := h.pi.al.get hs
      subst h3
      have hm : fp ∈ fps := List.mem_of_getElem? h2
      have fN : ∀ a ∈ fp, B a = none := fun a ha => h.pi.fr a (mem_fl hm ha)
      have eB : Le B (frzH B H fp) := frz_le fN
      have eH : Le (frzH B H fp) H := frz_in h.pi.bh
      have apart : ∀ (j : Nat) c, fps[j]? = some c → j ≠ i → ∀ a ∈ c, a ∉ fp := by
        have gen : ∀ {l : List (List Addr)} {i j : Nat} {c d : List Addr}, l.flatten.Nodup → l[i]? = some c → l[j]? = some d → j ≠ i → ∀ a ∈ d, a ∉ c := by
          intro l
          induction l with
          | nil => intro i j c d _ q; simp at q
          | cons x xs ih =>
            intro i j c d nd q1 q2 ne a ha hc
            rw [List.flatten_cons] at nd
            obtain ⟨n1, n2, n3⟩ := List.nodup_append.mp nd
            cases i with
            | zero =>
              cases j with
              | zero => exact ne rfl
              | succ j =>
                simp at q1 q2
                subst q1
                exact n3 a hc a (mem_fl (List.mem_of_getElem? q2) ha) rfl
            | succ i =>
              cases j with
              | zero =>
                simp at q1 q2
                subst q2
                exact n3 a ha a (mem_fl (List.mem_of_getElem? q1) hc) rfl
              | succ j =>
                exact ih n2 (by simpa using q1) (by simpa using q2) (fun z => ne (by rw [z])) a ha hc
        intro j c hj hne
        exact gen h.pi.nd h2 hj hne
      refine ⟨frzH B H fp, fps.set i [], ⟨⟨eH, ?_, ?_, fun a ha => ?_⟩, ⟨h.st.bb.trans eB, h.st.hh, eH, fun a z1 z2 => ?_⟩, fun a ha => ?_⟩⟩
      · have base : All3 (slotOk K (frzH B H fp) H) ss σ fps := h.pi.al.imp fun s o c hc r => r.mono eB fun a ha => rfl
        have q := base.set (a := Sl.v 0 d) (b := some v) (c := []) ⟨v, rfl, rfl, frz_rep _ eB (fun a ha => frz_at ha) h4⟩ i
        rw [set_same h1] at q
        exact q
      · exact nodup_set h.pi.nd List.nodup_nil i (fun _ _ => True.intro) fun a ha => nomatch ha
      · obtain ⟨c, hc, hac⟩ := List.mem_flatten.mp ha
        obtain ⟨j, hj, ej⟩ := List.mem_iff_getElem.mp hc
        have hne : j ≠ i := fun z => by
          subst z
          rw [List.getElem_set_self] at ej
          subst ej
          cases hac
        rw [List.getElem_set_ne (Ne.symm hne)] at ej
        have hj' : j < fps.length := by rw [List.length_set] at hj; exact hj
        have e2 : fps[j]? = some c := by rw [List.getElem?_eq_getElem hj', ej]
        rw [frz_out (apart j c e2 hne a hac)]
        exact h.pi.fr a (mem_fl (List.mem_of_getElem? e2) hac)
      · by_cases ha : a ∈ fp
        · (obtain ⟨xs, z2⟩ := z2; rw [h.fr a (mem_fl hm ha)] at z2; cases z2)
        · rw [frz_out ha]; exact h.st.dj a z1 z2
      · rcases mem_set_fl ha with z | z
        · exact h.fr a z
        · cases z
end
section
variable {X : Cx} {W : WX} {st : Stmt} {sts : List Stmt} {F : SM}
theorem frz_of {i : Nat} {D : Ends} {σ : L2.St} {H : Hp} (hq : tS X.K W (sFrz i F) D σ H) : tS X.K W F D σ H := by
  obtain ⟨B0, H0, B, ss, fps, si, k⟩ := hq
  obtain ⟨B', fps', si'⟩ := si.freeze i
  exact ⟨B0, H0, B', _, fps', si', k⟩
theorem s_frz (i : Nat) (h : PS X st (tS X.K W F)) : PS X st (tS X.K W (sFrz i F)) := ps_w h fun D σ H hq => frz_of hq
end
end Mv

namespace Mv
open PySem L2

def Post (K : PySem.W.Frag) (W : WX) (B0 H0 : Hp) (E : Ends) : SO → Prop
  | .nx ss' => ∀ B' σ' H' fps', SI K B0 H0 B' σ' H' ss' fps' → E.nx σ' H'
  | .bk ss' => ∀ B' σ' H' fps', SI K B0 H0 B' σ' H' ss' fps' → E.bk σ' H'
  | .ct ss' => ∀ B' σ' H' fps', SI K B0 H0 B' σ' H' ss' fps' → E.ct σ' H'
  | .rt n d => ∀ B' v H' fp, Stp B0 H0 B' H' → New K H0 B' H' n d v fp → E.rt v H'
  | .exc e ss' => ∀ B' σ' H' fps' cls dd, SI K B0 H0 B' σ' H' ss' fps' → ExR K B' H' e cls dd → W cls dd σ' H'
  | .ru d ss' => ∀ B' v σ' H' fps', SI K B0 H0 B' σ' H' ss' fps' → Rep K B' d v → E.rt v H'
  | .no => False
theorem tS_get {K : PySem.W.Frag} {W : WX} {F : SM} {E : Ends} {σ : L2.St} {H : Hp} (h : tS K W F E σ H) : ∃ B0 H0 B ss fps, SI K B0 H0 B σ H ss fps ∧ Post K W B0 H0 E (F ss) := by
  obtain ⟨B0, H0, B, ss, fps, si, k⟩ := h
  refine ⟨B0, H0, B, ss, fps, si, ?_⟩
  cases h : F ss <;> (rw [h] at k; exact k)
theorem tS_mk {K : PySem.W.Frag} {W : WX} {F : SM} {E : Ends} {σ : L2.St} {B0 H0 B H : Hp} {ss : En} {fps : List (List Addr)} (si : SI K B0 H0 B σ H ss fps) (k : Post K W B0 H0 E (F ss)) : tS K W F E σ H := by
  refine ⟨B0, H0, B, ss, fps, si, ?_⟩
  cases h : F ss <;> (rw [h] at k; exact k)

/-! ### what is walked -/
def Walk (K : PySem.W.Frag) (J : It) (B1 : Hp) (ds : List D) : Prop := ∀ (i : Nat) (B H : Hp), Le B1 B → Le B H → (i < ds.length → J.go i H) ∧ (ds.length ≤ i → J.stop i H) ∧ ∀ x H' d, ds[i]? = some d → J.yld i H x H' → ∃ B', Stp B H B' H' ∧ Rep K B' d x
abbrev EI := En → Res (List D)
def tI (K : PySem.W.Frag) (W : WX) (f : EI) : TI := fun σ H R => ∃ B ss fps, Pi K B σ H ss fps ∧ match f ss with
  | .ok ds => ∀ B' H' J, Stp B H B' H' → Walk K J B' ds → R J H'
  | .exc e => ∀ B' cls dd H', Stp B H B' H' → ExR K B' H' e cls dd → W cls dd σ H'
  | .no => False
theorem pi_w {X : Cx} {tg it : Expr} {t u : TI} (h : PI X tg it t) (k : ∀ σ H R, u σ H R → t σ H R) : PI X tg it u := ⟨fun pins s σ H R I q => h.run pins s σ H R I (k σ H R q)⟩
theorem walk_list {K : PySem.W.Frag} {B : Hp} {a : Addr} {xs : List V} {ds : List D} (h : SqL K B a xs) (rs : Reps K B ds xs) : Walk K (Itl K a) B ds := fun i B' H e1 e2 => by
  have hs : SqL K H a xs := e2.sqL (e1.sqL h)
  refine ⟨fun hi => ?_, fun hi => ⟨xs, hs, by rw [← rs.length]; exact hi⟩, fun x H' d hd hy => ?_⟩
  · obtain ⟨v, h1, _⟩ := rs.get (List.getElem?_eq_getElem hi)
    exact ⟨xs, v, hs, h1⟩
  · obtain ⟨rfl, hv⟩ := hy
    obtain ⟨v, h1, h2⟩ := rs.get hd
    have e := hv xs hs
    rw [h1] at e; cases e
    exact ⟨B', .refl e2, Rep.mono e1 _ _ h2⟩
theorem walk_tup {K : PySem.W.Frag} {B : Hp} {a : Addr} {xs : List V} {ds : List D} (h : SqT K B a xs) (rs : Reps K B ds xs) : Walk K (Itt K a) B ds := fun i B' H e1 e2 => by
  have up : ∀ {H H' : Hp}, Le H H' → SqT K H a xs → SqT K H' a xs := fun e h => by
    obtain (h | ⟨o, h⟩) | h := h
    · exact .inl (.inl (e _ _ h))
    · exact (.inl (.inr ⟨o, e _ _ h⟩))
    · exact .inr h
  have hs : SqT K H a xs := up e2 (up e1 h)
  refine ⟨fun hi => ?_, fun hi => ⟨xs, hs, by rw [← rs.length]; exact hi⟩, fun x H' d hd hy => ?_⟩
  · obtain ⟨v, h1, _⟩ := rs.get (List.getElem?_eq_getElem hi)
    exact ⟨xs, v, hs, h1⟩
  · obtain ⟨rfl, hv⟩ := hy
    obtain ⟨v, h1, h2⟩ := rs.get hd
    have e := hv xs hs
    rw [h1] at e; cases e
    exact ⟨B', .refl e2, Rep.mono e1 _ _ h2⟩
def rngD (lo : Int) (n : Nat) : List D := (List.range n).map fun (i : Nat) => .int (lo + (i : Int))
theorem rngD_get {lo : Int} {n i : Nat} {d : D} (h : (rngD lo n)[i]? = some d) : i < n ∧ d = .int (lo + (i : Int)) := by
  unfold rngD at h
  rw [List.getElem?_map] at h
  by_cases hi : i < n
  · rw [List.getElem?_range hi] at h
    exact ⟨hi, (Option.some.inj h).symm⟩
  · rw [List.getElem?_eq_none (by simpa using hi)] at h; cases h
theorem rngD_len {lo : Int} {n : Nat} : (rngD lo n).length = n := by unfold rngD; rw [List.length_map, List.length_range]
theorem walk_rng {K : PySem.W.Frag} {B : Hp} {lo : Int} {n : Nat} : Walk K (Itr lo n) B (rngD lo n) := fun i B' H e1 e2 => by
  refine ⟨fun hi => by rw [rngD_len] at hi; exact hi, fun hi => by rw [rngD_len] at hi; exact hi, fun x H' d hd hy => ?_⟩
  obtain ⟨rfl, rfl⟩ := hy
  obtain ⟨_, rfl⟩ := rngD_get hd
  exact ⟨B', .refl e2, rep_int⟩
def iSeq (f : EB) : EI := fun ss => match f ss with
  | .ok (0, .lst ds) => .ok ds
  | .ok (0, .rdl ds) => .ok ds
  | .ok (_, _) => .no
  | .exc e => .exc e
  | .no => .no
def iTupl (f : EB) : EI := fun ss => match f ss with
  | .ok (0, .tup ds) => .ok ds
  | .ok (_, _) => .no
  | .exc e => .exc e
  | .no => .no
def smallI (i : Int) : Bool := decide (-(2 ^ 62) ≤ i) && decide (i < 2 ^ 62)
def iRg1 (g : EA) : EI := fun ss => match g ss with
  | .ok [.int j] => if smallI j then .ok (rngD 0 j.toNat) else .no
  | .ok _ => .no
  | .exc e => .exc e
  | .no => .no
def iRg2 (g : EA) : EI := fun ss => match g ss with
  | .ok [.int i, .int j] => if smallI i && smallI j then .ok (rngD i (j - i).toNat) else .no
  | .ok _ => .no
  | .exc e => .exc e
  | .no => .no
section
variable {X : Cx} {W : WX} {tg a b c e : Expr} {pos p : Pos} {f : EB} {g1 : EA}
theorem i_list (h : PE X e (tB X.K W f)) : PI X tg e (tI X.K W (iSeq f)) := by
  refine pi_w (pi_list h) fun σ H R hq => ?_
  obtain ⟨B, ss, fps, pi, k⟩ := hq
  refine ⟨B, ss, fps, pi, ?_⟩
  unfold iSeq at k
  cases h : f ss with
  | ok r =>
    obtain ⟨n, d⟩ := r
    rw [h] at k
    cases n <;> cases d <;> first | exact k.elim | skip
    · intro B1 v H1 s1 bw
      have r := bw.rep
      rw [Rep] at r
      obtain ⟨a, xs, rfl, ha, rs⟩ := r
      exact ⟨a, rfl, ⟨xs, SqL.of (s1.bh _ _ ha)⟩, k B1 H1 _ s1 (walk_list (SqL.of ha) rs)⟩
    · intro B1 v H1 s1 bw
      have r := bw.rep
      rw [Rep] at r
      obtain ⟨a, xs, rfl, ha, rs⟩ := r
      exact ⟨a, rfl, ⟨xs, s1.bh.sqL ha⟩, k B1 H1 _ s1 (walk_list ha rs)⟩
  | exc e => rw [h] at k; exact k
  | no => rw [h] at k; exact k
theorem i_tup (h : PE X e (tB X.K W f)) : PI X tg e (tI X.K W (iTupl f)) := by
  refine pi_w (pi_tup h) fun σ H R hq => ?_
  obtain ⟨B, ss, fps, pi, k⟩ := hq
  refine ⟨B, ss, fps, pi, ?_⟩
  unfold iTupl at k
  cases h : f ss with
  | ok r =>
    obtain ⟨n, d⟩ := r
    rw [h] at k
    cases n <;> cases d <;> first | exact k.elim | skip
    intro B1 v H1 s1 bw
    have r := bw.rep
    rw [Rep] at r
    obtain ⟨a, xs, rfl, ha, rs⟩ := r
    exact ⟨a, rfl, ⟨xs, SqT.of (s1.bh _ _ ha)⟩, k B1 H1 _ s1 (walk_tup (SqT.of ha) rs)⟩
  | exc e => rw [h] at k; exact k
  | no => rw [h] at k; exact k
theorem reps1 {K : PySem.W.Frag} {B : Hp} {i : Int} {vs : List V} (h : Reps K B [.int i] vs) : vs = [.int i] := by
  rw [Reps] at h; obtain ⟨v, us, rfl, h1, h2⟩ := h
  rw [Reps] at h2; rw [Rep] at h1; rw [h1, h2]
theorem reps2 {K : PySem.W.Frag} {B : Hp} {i j : Int} {vs : List V} (h : Reps K B [.int i, .int j] vs) : vs = [.int i, .int j] := by
  rw [Reps] at h; obtain ⟨v, us, rfl, h1, h2⟩ := h
  rw [reps1 h2]; rw [Rep] at h1; rw [h1]
theorem smallI_of {i : Int} (h : smallI i = true) : -(2 ^ 62) ≤ i ∧ i < 2 ^ 62 := by
  unfold smallI at h
  rw [Bool.and_eq_true] at h
  exact ⟨of_decide_eq_true h.1, of_decide_eq_true h.2⟩
theorem i_range1 (hg : Gl X "range") (hm : X.mg "range" = none) (ha : PA X [a] (tAh X.K W g1)) (hs : starEach [a] X.env = [(false, eval a X.env)] := by rfl) : PI X tg (.Call (.Name "range" p) [a] [] pos) (tI X.K W (iRg1 g1)) := by
  refine pi_w (pi_range1 hg hm ha hs) fun σ H R hq => ?_
  obtain ⟨B, ss, fps, pi, k⟩ := hq
  refine ⟨B, ss, fps, pi, ?_⟩
  unfold iRg1 at k
  cases h : g1 ss with
  | ok ds =>
    rw [h] at k
    match ds, k with
    | [], k => exact k.elim
    | [.int j], k =>
      intro B1 vs H1 s1 rs
      rw [reps1 rs]
      cases hj : smallI j with
      | false => simp only [hj] at k; exact absurd k (by simp)
      | true =>
        simp only [hj, if_true] at k
        obtain ⟨h1, h2⟩ := smallI_of hj
        exact ⟨j, rfl, h1, h2, k B1 H1 _ s1 walk_rng⟩
    | [.non], k => exact k.elim
    | [.bl _], k => exact k.elim
    | [.str _], k => exact k.elim
    | [.lst _], k => exact k.elim
    | [.tup _], k => exact k.elim
    | [.rdl _], k => exact k.elim
    | [.ins _ _], k => exact k.elim
    | [.exo _], k => exact k.elim
    | [.exd _ _ _], k => exact k.elim
    | d :: e :: r, k => cases d <;> exact k.elim
  | exc e => rw [h] at k; exact k
  | no => rw [h] at k; exact k
theorem i_range2 (hg : Gl X "range") (hm : X.mg "range" = none) (ha : PA X [a, b] (tAh X.K W g1)) (hs : starEach [a, b] X.env = [(false, eval a X.env), (false, eval b X.env)] := by rfl) (hs2 : starEach [b] X.env = [(false, eval b X.env)] := by rfl) :
    PI X tg (.Call (.Name "range" p) [a, b] [] pos) (tI X.K W (iRg2 g1)) := by
  refine pi_w (pi_range2 hg hm ha hs hs2) fun σ H R hq => ?_
  obtain ⟨B, ss, fps, pi, k⟩ := hq
  refine ⟨B, ss, fps, pi, ?_⟩
  unfold iRg2 at k
  cases h : g1 ss with
  | ok ds =>
    rw [h] at k
    by_cases hd : ∃ i j, ds = [.int i, .int j]
    · obtain ⟨i, j, rfl⟩ := hd
      intro B1 vs H1 s1 rs
      rw [reps2 rs]
      cases hi : smallI i with
      | false => simp [hi] at k
      | true =>
        cases hj : smallI j with
        | false => simp [hi, hj] at k
        | true =>
          simp only [hi, hj, Bool.and_self, if_true] at k
          obtain ⟨h1, h2⟩ := smallI_of hi
          obtain ⟨h3, h4⟩ := smallI_of hj
          exact ⟨i, j, rfl, ⟨h1, h2, h3, h4⟩, k B1 H1 _ s1 walk_rng⟩
    · exfalso
      match ds, k, hd with
      | [], k, _ => exact k
      | [d], k, _ => cases d <;> exact k
      | d :: e :: f :: r, k, _ => cases d <;> cases e <;> exact k
      | [d, e], k, hd => cases d <;> cases e <;> first | exact k | exact hd ⟨_, _, rfl⟩
  | exc e => rw [h] at k; exact k
  | no => rw [h] at k; exact k
end

/-! ### targets -/
abbrev Tgt := D → En → Option En
def TgOk (K : PySem.W.Frag) (g : TG) (tgt : Tgt) : Prop := ∀ (B : Hp) (σ : L2.St) (H : Hp) (ss : En) (fps : List (List Addr)) (d : D) (v : V) (s1 : En) (Q : L2.St → Hp → Prop), Pi K B σ H ss fps → Rep K B d v → tgt d ss = some s1 →
  (∀ σ1, (∀ B0 H0, SI K B0 H0 B σ H ss fps → ∃ fps1, SI K B0 H0 B σ1 H s1 fps1) → (∃ fps1, Pi K B σ1 H s1 fps1) → Q σ1 H) → g v σ H Q
def tgName (i : Nat) : Tgt := fun d ss => some (ss.set i (.v 0 d))
def tgPair (i j : Nat) : Tgt := fun d ss => match d with
  | .tup [a, b] => some ((ss.set i (.v 0 a)).set j (.v 0 b))
  | _ => none
section
variable {K : PySem.W.Frag} {B0 H0 B B' H H' : Hp} {σ : L2.St} {ss : En} {fps : List (List Addr)}
theorem SI.set0 (h : SI K B0 H0 B σ H ss fps) {d : D} {v : V} (r : Rep K B d v) (i : Nat) : SI K B0 H0 B (σ.set i (some v)) H (ss.set i (.v 0 d)) (fps.set i []) :=
  h.store (.refl h.pi.bh) (show New K H B H 0 d v [] from ⟨⟨rfl, r⟩, List.nodup_nil, fun a z => nomatch z⟩) i
theorem Pi.set0 (h : Pi K B σ H ss fps) {d : D} {v : V} (r : Rep K B d v) (i : Nat) : Pi K B (σ.set i (some v)) H (ss.set i (.v 0 d)) (fps.set i []) := by
  refine ⟨h.bh, h.al.set (a := Sl.v 0 d) (b := some v) (c := []) ⟨v, rfl, rfl, r⟩ i, nodup_set h.nd List.nodup_nil i (fun _ _ => True.intro) (fun a ha => nomatch ha), fun a ha => ?_⟩
  rcases mem_set_fl ha with z | z
  · exact h.fr a z
  · cases z
theorem Pi.setUn (h : Pi K B σ H ss fps) (i : Nat) : Pi K B (σ.set i none) H (ss.set i .un) (fps.set i []) := by
  refine ⟨h.bh, h.al.set (a := Sl.un) (b := none) (c := []) rfl i, nodup_set h.nd List.nodup_nil i (fun _ _ => True.intro) (fun a ha => nomatch ha), fun a ha => ?_⟩
  rcases mem_set_fl ha with z | z
  · exact h.fr a z
  · cases z
end
theorem tg_name {K : PySem.W.Frag} {i : Nat} : TgOk K (gName i) (tgName i) := by
  intro B σ H ss fps d v s1 Q pi r e k
  cases e
  exact k _ (fun B0 H0 si => ⟨_, si.set0 r i⟩) ⟨_, pi.set0 r i⟩
theorem tg_pair {K : PySem.W.Frag} {i j : Nat} : TgOk K (gTup K 2 (gCons (gName i) (gCons (gName j) gNil))) (tgPair i j) := by
  intro B σ H ss fps d v s1 Q pi r e k
  unfold tgPair at e
  split at e
  · rename_i x y
    cases e
    rw [Rep] at r
    obtain ⟨a, xs, rfl, ha, rs⟩ := r
    rw [Reps] at rs
    obtain ⟨vx, us, rfl, r1, rs⟩ := rs
    rw [Reps] at rs
    obtain ⟨vy, us, rfl, r2, rs⟩ := rs
    rw [Reps] at rs
    subst rs
    exact ⟨a, _, rfl, SqT.of (pi.bh _ _ ha), rfl, vx, [vy], rfl, vy, [], rfl, rfl, k _ (fun B0 H0 si => ⟨_, (si.set0 r1 i).set0 r2 j⟩) ⟨_, (pi.set0 r1 i).set0 r2 j⟩⟩
  · cases e

/-! ### for -/
def loop (step : D → SM) : List D → SM
  | [], ss => .nx ss
  | d :: ds, ss => match step d ss with
    | .nx s' => loop step ds s'
    | .ct s' => loop step ds s'
    | .bk s' => .nx s'
    | o => o
def stepF (tgt : Tgt) (body : SM) : D → SM := fun d ss => match tgt d ss with
  | some s1 => body s1
  | none => .no
def sFor (fi : EI) (tgt : Tgt) (body : SM) : SM := fun ss => match fi ss with
  | .ok ds => loop (stepF tgt body) ds ss
  | .exc e => .exc e ss
  | .no => .no
section
variable {K : PySem.W.Frag} {W : WX} {B0 H0 B B1 H H1 : Hp} {E : Ends}
/-- the entry may be taken to have the greater base -/
theorem Stp.low (s : Stp B0 H0 B1 H1) : Stp B1 H0 B1 H1 := ⟨Le.refl _, s.hh, s.bh, fun _ z _ => z⟩
theorem Stp.up (s : Stp B0 H0 B1 H1) {B2 H2 : Hp} (t : Stp B1 H0 B2 H2) : Stp B0 H0 B2 H2 := ⟨s.bb.trans t.bb, t.hh, t.bh, fun a z1 z2 => t.dj a (s.dj a z1 z2) z2⟩
theorem SI.low {σ : L2.St} {ss : En} {fps : List (List Addr)} (h : SI K B0 H0 B σ H ss fps) : SI K B H0 B σ H ss fps := ⟨h.pi, h.st.low, h.fr⟩
theorem SI.up (s : Stp B0 H0 B1 H1) {σ : L2.St} {B2 H2 : Hp} {ss : En} {fps : List (List Addr)} (h : SI K B1 H0 B2 σ H2 ss fps) : SI K B0 H0 B2 σ H2 ss fps := ⟨h.pi, s.up h.st, h.fr⟩
end
section
variable {X : Cx} {W : WX} {tg it e : Expr} {pos p : Pos} {fi : EI} {g : TG} {tgt : Tgt} {F : SM} {body : List Stmt}
theorem s_for (hp : PassesOwn (model X.prog X.w) X.A X.env X.xe) (hc : X.calm = true) (hi : PI X tg it (tI X.K W fi)) (hg : PG X tg g) (ht : TgOk X.K g tgt) (hb : PSs X body (tS X.K W F)) (hs : ∀ x, foldedSetIterable it X.env x = pure x := by intro _; rfl) :
    PS X (.For tg it body [] pos) (tS X.K W (sFor fi tgt F)) := by
  refine ps_w (ps_for hp hc hi hg hb hs) fun E σ H hq => ?_
  obtain ⟨B0, H0, B, ss, fps, si, k⟩ := tS_get hq
  refine ⟨B, ss, fps, si.pi, ?_⟩
  unfold sFor at k
  cases h : fi ss with
  | ok ds =>
    rw [h] at k
    intro B1 H1 J s1 wk
    have si1 := si.step s1
    refine ⟨fun i m σ' H' => m = ds.length - i ∧ i ≤ ds.length ∧ ∃ B' ss' fps', SI X.K B1 H0 B' σ' H' ss' fps' ∧ Post X.K W B0 H0 E (loop (stepF tgt F) (ds.drop i) ss'), ⟨ds.length, by simp, Nat.zero_le _, B1, ss, fps, si1.low, by rw [List.drop_zero]; exact k⟩, ?_⟩
    rintro i m σ' H' ⟨rfl, hi, B', ss', fps', si', q⟩
    obtain ⟨w1, w2, w3⟩ := wk i B' H' si'.st.bb si'.st.bh
    by_cases hlt : i < ds.length
    · refine .inr ⟨w1 hlt, fun σ2 H2 => ∃ B2 ss2 fps2, SI X.K B1 H0 B2 σ2 H2 ss2 fps2 ∧ Post X.K W B0 H0 E (loop (stepF tgt F) (ds.drop (i + 1)) ss2), fun σ2 H2 ⟨B2, ss2, fps2, si2, q2⟩ => ⟨ds.length - (i + 1), by omega, rfl, hlt, B2, ss2, fps2, si2, q2⟩, fun x H2 hy => ?_⟩
      have hd : ds.drop i = ds[i] :: ds.drop (i + 1) := List.drop_eq_getElem_cons hlt
      obtain ⟨B2, st2, rx⟩ := w3 x H2 ds[i] (List.getElem?_eq_getElem hlt) hy
      rw [hd] at q
      unfold loop at q
      unfold stepF at q
      cases ht1 : tgt ds[i] ss' with
      | none => simp only [ht1] at q; exact q.elim
      | some s1' =>
        simp only [ht1] at q
        have si2 := si'.step st2
        refine ht B2 σ' H2 ss' fps' ds[i] x s1' _ si2.pi rx ht1 fun σ3 up _ => ?_
        obtain ⟨fps3, si3⟩ := up B1 H0 si2
        refine tS_mk si3 ?_
        cases hb1 : F s1' with
        | nx s4 => simp only [hb1] at q; exact fun B4 σ4 H4 fps4 si4 => ⟨B4, s4, fps4, si4, q⟩
        | ct s4 => simp only [hb1] at q; exact fun B4 σ4 H4 fps4 si4 => ⟨B4, s4, fps4, si4, q⟩
        | bk s4 => simp only [hb1] at q; exact fun B4 σ4 H4 fps4 si4 => q B4 σ4 H4 fps4 (si4.up si1.st)
        | rt n d => simp only [hb1] at q; exact fun B4 v4 H4 fp4 st4 nw => q B4 v4 H4 fp4 (si1.st.up st4) nw
        | exc e s4 => simp only [hb1] at q; exact fun B4 σ4 H4 fps4 cls dd si4 ex => q B4 σ4 H4 fps4 cls dd (si4.up si1.st) ex
        | ru d s4 => simp only [hb1] at q; exact fun B4 v4 σ4 H4 fps4 si4 r4 => q B4 v4 σ4 H4 fps4 (si4.up si1.st) r4
        | no => simp only [hb1] at q; exact q.elim
    · have e : i = ds.length := by omega
      refine .inl ⟨w2 (Nat.le_of_eq e.symm), ?_⟩
      rw [List.drop_eq_nil_of_le (Nat.le_of_eq e.symm)] at q
      exact q B' σ' H' fps' (si'.up si1.st)
  | exc e => rw [h] at k; exact fun B' cls dd H' st ex => k B' σ H' fps cls dd (si.step st) ex
  | no => rw [h] at k; exact k

/-! ### while -/
def whl (t : ET) (F : SM) : Nat → SM
  | 0, _ => .no
  | n + 1, ss => match t ss with
    | .ok true => (match F ss with
      | .nx s' => whl t F n s'
      | .ct s' => whl t F n s'
      | .bk s' => .nx s'
      | o => o)
    | .ok false => .nx ss
    | .exc e => .exc e ss
    | .no => .no
theorem whl_mono (t : ET) (F : SM) : ∀ (n : Nat) (ss : En), whl t F n ss ≠ .no → ∀ k, whl t F (n + k) ss = whl t F n ss
  | 0, ss, h, _ => absurd rfl h
  | n + 1, ss, h, k => by
    rw [show n + 1 + k = (n + k) + 1 by omega]
    unfold whl at h ⊢
    cases ht : t ss with
    | ok b =>
      rw [ht] at h
      cases b with
      | true =>
        cases hf : F ss with
        | nx s' => simp only [hf] at h ⊢; exact whl_mono t F n s' h k
        | ct s' => simp only [hf] at h ⊢; exact whl_mono t F n s' h k
        | bk s' => rfl
        | rt n d => rfl
        | exc e s' => rfl
        | ru d s' => rfl
        | no => rfl
      | false => rfl
    | exc e => rfl
    | no => rfl
open Classical in
noncomputable def sWh (t : ET) (F : SM) : SM := fun ss => if h : ∃ n, whl t F n ss ≠ .no then whl t F (Classical.choose h) ss else .no
theorem sWh_eq {t : ET} {F : SM} {ss : En} {n : Nat} {o : SO} (h : whl t F n ss = o) (ho : o ≠ .no) : sWh t F ss = o := by
  have hx : ∃ n, whl t F n ss ≠ .no := ⟨n, by rw [h]; exact ho⟩
  unfold sWh
  rw [dif_pos hx]
  have h1 := Classical.choose_spec hx
  rcases Nat.le_total (Classical.choose hx) n with q | q
  · obtain ⟨k, hk⟩ := Nat.exists_eq_add_of_le q
    have := whl_mono t F _ ss h1 k
    rw [← hk, h] at this
    exact this.symm
  · obtain ⟨k, hk⟩ := Nat.exists_eq_add_of_le q
    have := whl_mono t F n ss (by rw [h]; exact ho) k
    rw [← hk, h] at this
    exact this
theorem s_while {c : Expr} {t1 : ET} (hp : PassesOwn (model X.prog X.w) X.A X.env X.xe) (hc : PT X c (tT X.K W t1)) (hb : PSs X body (tS X.K W F)) : PS X (.While c body [] pos) (tS X.K W (sWh t1 F)) := by
  refine ps_w (ps_while hp hc hb) fun E σ H hq => ?_
  obtain ⟨B0, H0, B, ss, fps, si, k⟩ := tS_get hq
  by_cases hx : ∃ n, whl t1 F n ss ≠ .no
  · have hk : Post X.K W B0 H0 E (whl t1 F (Classical.choose hx) ss) := by
      have e : sWh t1 F ss = whl t1 F (Classical.choose hx) ss := by unfold sWh; rw [dif_pos hx]
      rw [← e]; exact k
    generalize Classical.choose hx = n at hk
    refine ⟨fun m σ' H' => ∃ B' ss' fps', SI X.K B0 H0 B' σ' H' ss' fps' ∧ Post X.K W B0 H0 E (whl t1 F m ss'), ⟨n, B, ss, fps, si, hk⟩, ?_⟩
    rintro m σ' H' ⟨B', ss', fps', si', q⟩
    refine ⟨B', ss', fps', si'.pi, ?_⟩
    cases m with
    | zero => exact q.elim
    | succ m =>
      unfold whl at q
      cases ht : t1 ss' with
      | ok b =>
        simp only [ht] at q
        cases b with
        | true =>
          intro B2 H2 s2
          refine ⟨fun σ3 H3 => ∃ B3 ss3 fps3, SI X.K B0 H0 B3 σ3 H3 ss3 fps3 ∧ Post X.K W B0 H0 E (whl t1 F m ss3), fun σ3 H3 w => ⟨m, Nat.lt_succ_self m, w⟩, tS_mk (si'.step s2) ?_⟩
          cases hb1 : F ss' with
          | nx s4 => simp only [hb1] at q; exact fun B4 σ4 H4 fps4 si4 => ⟨B4, s4, fps4, si4, q⟩
          | ct s4 => simp only [hb1] at q; exact fun B4 σ4 H4 fps4 si4 => ⟨B4, s4, fps4, si4, q⟩
          | bk s4 => simp only [hb1] at q; exact q
          | rt n d => simp only [hb1] at q; exact q
          | exc e s4 => simp only [hb1] at q; exact q
          | ru d s4 => simp only [hb1] at q; exact q
          | no => simp only [hb1] at q; exact q.elim
        | false => exact fun B2 H2 s2 => q B2 σ' H2 fps' (si'.step s2)
      | exc e => simp only [ht] at q; exact fun B2 cls dd H2 st ex => q B2 σ' H2 fps' cls dd (si'.step st) ex
      | no => simp only [ht] at q; exact q
  · exfalso
    have e : sWh t1 F ss = .no := by unfold sWh; rw [dif_neg hx]
    rw [e] at k
    exact k
end
end Mv

namespace Mv
open PySem L2

/-! ### a change of an owned cell -/
section
variable {K : PySem.W.Frag} {B0 H0 B B' H H' : Hp} {σ : St} {ss : En} {fps : List (List Addr)}
theorem New.step {n : Nat} {d : D} {v : V} {fp : List Addr} (h : New K H0 B H n d v fp) (s : Stp B H B' H') : New K H0 B' H' n d v fp := by
  refine ⟨h.ow.le s.bb s.hh, h.nd, fun a ha => ⟨s.dj a (h.fr a ha).1 (h.ow.at a ha), (h.fr a ha).2⟩⟩
theorem apart_of : ∀ {l : List (List Addr)} {i j : Nat} {c d : List Addr}, l.flatten.Nodup → l[i]? = some c → l[j]? = some d → j ≠ i → ∀ a ∈ d, a ∉ c := by
  intro l
  induction l with
  | nil => intro i j c d _ q; simp at q
  | cons x xs ih =>
    intro i j c d nd q1 q2 ne a ha hc
    rw [List.flatten_cons] at nd
    obtain ⟨n1, n2, n3⟩ := List.nodup_append.mp nd
    cases i with
    | zero =>
      cases j with
      | zero => exact ne rfl
      | succ j =>
        simp at q1 q2
        subst q1
        exact n3 a hc a (mem_fl (List.mem_of_getElem? q2) ha) rfl
    | succ i =>
      cases j with
      | zero =>
        simp at q1 q2
        subst q2
        exact n3 a ha a (mem_fl (List.mem_of_getElem? q1) hc) rfl
      | succ j =>
        exact ih n2 (by simpa using q1) (by simpa using q2) (fun z => ne (by rw [z])) a ha hc
theorem all3_ix {α β γ : Type} {R S : α → β → γ → Prop} {as : List α} {bs : List β} {cs : List γ} (h : All3 R as bs cs) (k : ∀ (j : Nat) a b c, cs[j]? = some c → R a b c → S a b c) : All3 S as bs cs := by
  induction h with
  | nil => exact .nil
  | cons r t ih => exact .cons (k 0 _ _ _ (by simp) r) (ih fun j a b c hc => k (j + 1) a b c (by simpa using hc))
theorem all3_ixset {α β γ : Type} {R S : α → β → γ → Prop} {as : List α} {bs : List β} {cs : List γ} (h : All3 R as bs cs) {i : Nat} (k : ∀ (j : Nat) a b c, j ≠ i → cs[j]? = some c → R a b c → S a b c) {a : α} {b : β} {c : γ} (r : S a b c) : All3 S (as.set i a) (bs.set i b) (cs.set i c) := by
  induction h
    generalizing i with
  | nil => exact .nil
  | cons r0 t ih =>
    cases i with
    | zero => exact .cons r (all3_ix t fun j a b c hc => k (j + 1) a b c (by omega) (by simpa using hc))
    | succ i => exact .cons (k 0 _ _ _ (by omega) (by simp) r0) (ih fun j a b c hj hc => k (j + 1) a b c (by omega) (by simpa using hc))
/-- slot i owns the list at p; its items are changed, what is owned may come from a fresh value -/
theorem SI.cell (h : SI K B0 H0 B σ H ss fps) {i n : Nat} {ds ds' : List D} {p : Addr} {xs xs' : List V} {fpc fpc' : List (List Addr)} (hs : ss[i]? = some (.v (n + 1) (.lst ds))) (hσ : σ[i]? = some (some (.ref p))) (hf : fps[i]? = some (p :: fpc.flatten))
    (hp : H p = some (.lst xs)) (al : All3 (Ow K B (upd H p (.lst xs')) n) ds' xs' fpc') (nd : (p :: fpc'.flatten).Nodup)
    (fr : ∀ a ∈ fpc'.flatten, a ∈ fpc.flatten ∨ (a ∉ fps.flatten ∧ B a = none ∧ H0 a = none)) :
    SI K B0 H0 B σ (upd H p (.lst xs')) (ss.set i (.v (n + 1) (.lst ds'))) (fps.set i (p :: fpc'.flatten)) := by
  have hm : (p :: fpc.flatten) ∈ fps := List.mem_of_getElem? hf
  have pB : B p = none := h.pi.fr p (mem_fl hm List.mem_cons_self)
  have pH0 : H0 p = none := h.fr p (mem_fl hm List.mem_cons_self)
  have bh : Le B (upd H p (.lst xs')) := Le.mut h.pi.bh pB
  have q : All3 (slotOk K B (upd H p (.lst xs'))) (ss.set i (.v (n + 1) (.lst ds'))) (σ.set i (some (.ref p))) (fps.set i (p :: fpc'.flatten)) := by
    refine all3_ixset h.pi.al (fun j s o c hj hc r => r.mono (Le.refl B) fun a ha => ?_) ⟨.ref p, rfl, ds', p, xs', fpc', rfl, rfl, upd_same, rfl, al⟩
    have : a ≠ p := fun z => apart_of h.pi.nd hf hc hj a ha (by rw [z]; exact List.mem_cons_self)
    rw [upd_ne this]
  rw [set_same hσ] at q
  have frB : ∀ a ∈ (fps.set i (p :: fpc'.flatten)).flatten, B a = none ∧ H0 a = none := fun a ha => by
    rcases mem_set_fl ha with z | z
    · exact ⟨h.pi.fr a z, h.fr a z⟩
    · rcases List.mem_cons.mp z with e | e
      · rw [e]; exact ⟨pB, pH0⟩
      · rcases fr a e with w | w
        · exact ⟨h.pi.fr a (mem_fl hm (List.mem_cons_of_mem _ w)), h.fr a (mem_fl hm (List.mem_cons_of_mem _ w))⟩
        · exact w.2
  refine ⟨⟨bh, q, nodup_set h.pi.nd nd i (fun _ _ => True.intro) fun a ha c hc hac => ?_, fun a ha => (frB a ha).1⟩, ⟨h.st.bb, Le.mut h.st.hh pH0, bh, h.st.dj⟩, fun a ha => (frB a ha).2⟩
  rcases List.mem_cons.mp ha with e | e
  · exact ⟨_, hf, by rw [e]; exact List.mem_cons_self⟩
  · rcases fr a e with w | w
    · exact ⟨_, hf, List.mem_cons_of_mem _ w⟩
    · exact absurd (mem_fl hc hac) w.1
/-- what a slot owns -/
theorem SI.own (h : SI K B0 H0 B σ H ss fps) {i n : Nat} {d : D} (hs : ss[i]? = some (.v (n + 1) d)) : ∃ ds p xs fpc, d = .lst ds ∧ σ[i]? = some (some (.ref p)) ∧ fps[i]? = some (p :: fpc.flatten) ∧ H p = some (.lst xs) ∧ All3 (Ow K B H n) ds xs fpc := by
  obtain ⟨o, fp, h1, h2, v, h3, ds, p, xs, fpc, e, h4, h5, h6, h7⟩ := h.pi.al.get hs
  subst h3 h4 h6
  exact ⟨ds, p, xs, fpc, e, h1, h2, h5, h7⟩
theorem flatten_app1 {α : Type} (l : List (List α)) (c : List α) : (l ++ [c]).flatten = l.flatten ++ c := by rw [List.flatten_append, List.flatten_cons, List.flatten_nil, List.append_nil]
/-- x.append(..) -/
theorem SI.app (h : SI K B0 H0 B σ H ss fps) {i n : Nat} {ds : List D} (hs : ss[i]? = some (.v (n + 1) (.lst ds))) {d : D} {v : V} {fp : List Addr} {Hx : Hp} (nw : New K Hx B H n d v fp) (hx : ∀ a ∈ fps.flatten, Hx a ≠ none) (h0 : Le H0 Hx) :
    ∃ p xs fps', σ[i]? = some (some (.ref p)) ∧ H p = some (.lst xs) ∧ ds.length = xs.length ∧ SI K B0 H0 B σ (upd H p (.lst (xs ++ [v]))) (ss.set i (.v (n + 1) (.lst (ds ++ [d])))) fps' := by
  obtain ⟨ds', p, xs, fpc, e, h1, h2, h3, al⟩ := h.own hs
  cases e
  have hm : (p :: fpc.flatten) ∈ fps := List.mem_of_getElem? h2
  have fresh : ∀ a ∈ fp, a ∉ fps.flatten := fun a ha z => hx a z (nw.fr a ha).2
  have nd0 := nd_mem h.pi.nd hm
  obtain ⟨n1, n2⟩ := List.nodup_cons.mp nd0
  have keep : ∀ a, a ≠ p → upd H p (.lst (xs ++ [v])) a = H a := fun a ha => upd_ne ha
  refine ⟨p, xs, _, h1, h3, al.len1, h.cell (fpc' := fpc ++ [fp]) hs h1 h2 h3 ?_ ?_ ?_⟩
  · refine All3.append (all3_ix al fun j a b c hc r => r.mono (Le.refl B) fun x hxx => keep x fun z => n1 (by rw [← z]; exact mem_fl (List.mem_of_getElem? hc) hxx)) (.cons ?_ .nil)
    exact nw.ow.mono (Le.refl B) fun x hxx => keep x fun z => fresh x hxx (mem_fl hm (by rw [z]; exact List.mem_cons_self))
  · rw [flatten_app1]
    refine List.nodup_cons.mpr ⟨fun z => ?_, List.nodup_append.mpr ⟨n2, nw.nd, fun a ha b hb e => ?_⟩⟩
    · rcases List.mem_append.mp z with z | z
      · exact n1 z
      · exact fresh p z (mem_fl hm List.mem_cons_self)
    · subst e
      exact fresh a hb (mem_fl hm (List.mem_cons_of_mem _ ha))
  · intro a ha
    rw [flatten_app1] at ha
    rcases List.mem_append.mp ha with z | z
    · exact .inl z
    · exact .inr ⟨fresh a z, (nw.fr a z).1, h0.back (nw.fr a z).2⟩
/-- x[k] = .. -/
theorem SI.setI (h : SI K B0 H0 B σ H ss fps) {i n : Nat} {ds : List D} (hs : ss[i]? = some (.v (n + 1) (.lst ds))) {d : D} {v : V} {fp : List Addr} {Hx : Hp} (nw : New K Hx B H n d v fp) (hx : ∀ a ∈ fps.flatten, Hx a ≠ none) (h0 : Le H0 Hx) {k : Int} {j : Nat} (hk : ixN ds.length k = some j) :
    ∃ p xs fps', σ[i]? = some (some (.ref p)) ∧ H p = some (.lst xs) ∧ ixN xs.length k = some j ∧ SI K B0 H0 B σ (upd H p (.lst (xs.set j v))) (ss.set i (.v (n + 1) (.lst (ds.set j d)))) fps' := by
  obtain ⟨ds', p, xs, fpc, e, h1, h2, h3, al⟩ := h.own hs
  cases e
  have hm : (p :: fpc.flatten) ∈ fps := List.mem_of_getElem? h2
  have fresh : ∀ a ∈ fp, a ∉ fps.flatten := fun a ha z => hx a z (nw.fr a ha).2
  have nd0 := nd_mem h.pi.nd hm
  obtain ⟨n1, n2⟩ := List.nodup_cons.mp nd0
  have keep : ∀ a, a ≠ p → upd H p (.lst (xs.set j v)) a = H a := fun a ha => upd_ne ha
  refine ⟨p, xs, _, h1, h3, by rw [← al.len1]; exact hk, h.cell (fpc' := fpc.set j fp) hs h1 h2 h3 ?_ ?_ ?_⟩
  · refine all3_ixset al (fun m a b c hm2 hc r => r.mono (Le.refl B) fun x hxx => keep x fun z => n1 (by rw [← z]; exact mem_fl (List.mem_of_getElem? hc) hxx)) ?_
    exact nw.ow.mono (Le.refl B) fun x hxx => keep x fun z => fresh x hxx (mem_fl hm (by rw [z]; exact List.mem_cons_self))
  · refine List.nodup_cons.mpr ⟨fun z => ?_, nodup_set n2 nw.nd j (fun _ _ => True.intro) fun a ha c hc hac => absurd (mem_fl hm (List.mem_cons_of_mem _ (mem_fl hc hac))) (fresh a ha)⟩
    rcases mem_set_fl z with z | z
    · exact n1 z
    · exact fresh p z (mem_fl hm List.mem_cons_self)
  · intro a ha
    rcases mem_set_fl ha with z | z
    · exact .inl z
    · exact .inr ⟨fresh a z, (nw.fr a z).1, h0.back (nw.fr a z).2⟩
end
def sApp (i : Nat) (f : EB) : SM := fun ss => match ss[i]? with
  | some (.v (n + 1) (.lst ds)) => (match f ss with
    | .ok (m, d) => if m = n ∧ ds.length < 10000000 then .nx (ss.set i (.v (n + 1) (.lst (ds ++ [d])))) else .no
    | .exc e => .exc e ss
    | .no => .no)
  | _ => .no
def sSetI (i : Nat) (fi f : EB) : SM := fun ss => match f ss with
  | .ok (m, d) => (match fi ss with
    | .ok (_, .int k) => (match ss[i]? with
      | some (.v (n + 1) (.lst ds)) => (match ixN ds.length k with
        | some j => if m = n then .nx (ss.set i (.v (n + 1) (.lst (ds.set j d)))) else .no
        | none => .no)
      | _ => .no)
    | .ok (_, _) => .no
    | .exc _ => .no
    | .no => .no)
  | .exc e => .exc e ss
  | .no => .no
def sAug (i : Nat) (g : Int → Int → Int) (f : EB) : SM := fun ss => match ss[i]? with
  | some (.v 0 (.int a)) => (match f ss with
    | .ok (_, .int b) => .nx (ss.set i (.v 0 (.int (g a b))))
    | .ok (_, _) => .no
    | .exc e => .exc e ss
    | .no => .no)
  | _ => .no
theorem size_lt {n : Nat} (h : n < 10000000) : n < sizeLine := by rw [sizeLine_eq]; omega
section
variable {X : Cx} {W : WX} {e a b : Expr} {pos : Pos} {f f1 fi : EB}
theorem s_app (i : Nat) {x : Str} {p apos cpos : Pos} (he : PE X e (tM X.K W f)) (hN : X.N[i]? = some x := by rfl) (hv : Vis X.env.scope x := by first | exact Or.inl rfl | exact Or.inr (Or.inl rfl) | exact Or.inr (Or.inr rfl)) (hd : (x == ("__debug__" : Str)) = false := by decide)
    (hcd : (x == ("__classdict__" : Str)) = false := by decide)
    (hbase : attributeBase (.Name x p) "append" X.env (eval (.Name x p) X.env) = eval (.Name x p) X.env := by rfl)
    (hfew : ((backTo cpos (starEach [e] X.env)).all (fun x => !x.1) && (backToKw cpos (keywordEach [] X.env)).all (fun x => x.1.isSome) && decide (([e] : List Expr).length + ([] : List Keyword).length + (if ([] : List Keyword).isEmpty then 0 else 1) < 30)) = true := by rfl)
    (hline : (apos.endLine == cpos.line) = true := by rfl) (hs : starEach [e] X.env = (false, eval e X.env) :: starEach [] X.env := by rfl) (hplain : (backTo cpos (starEach [] X.env)).any (·.1) = false := by rfl)
    (hsw : swapsWith (.Call (.Attribute (.Name x p) "append" apos) [e] [] cpos) none pos.line X.env = pure false := by rfl) :
    PS X (.Expr (.Call (.Attribute (.Name x p) "append" apos) [e] [] cpos) pos) (tS X.K W (sApp i f)) := by
  refine ps_w (ps_expr (pe_bm PySem.F.plainAttrs_list PySem.F.slot_list_append PySem.F.type_list_append mt_append (pe_var hN hv hd hcd) (pa_cons he pa_nil hs) hbase hfew hline hs hplain) hsw) fun E σ H hq => ?_
  obtain ⟨B0, H0, B, ss, fps, si, k⟩ := tS_get hq
  unfold sApp at k
  split at k
  · rename_i n ds hi
    obtain ⟨ds', p, xs, fpc, e0, h1, h2, h3, al⟩ := si.own hi
    cases e0
    refine ⟨.ref p, h1, .inl ⟨rfl, _, SqL.of h3⟩, B, ss, fps, si.pi, ?_⟩
    cases hf : f ss with
    | ok r =>
      obtain ⟨m, d⟩ := r
      simp only [hf] at k
      intro B1 v H1 fp s1 nw
      by_cases hc : m = n ∧ ds.length < 10000000
      · rw [if_pos hc] at k
        obtain ⟨rfl, hl⟩ := hc
        obtain ⟨p2, xs2, fps', q1, q2, q3, q4⟩ := (si.step s1).app hi nw (fun a ha => by obtain ⟨ys, e⟩ := si.pi.here a ha; rw [e]; exact fun z => nomatch z) si.st.hh
        rw [h1] at q1
        cases q1
        exact ⟨p, xs2, v, rfl, rfl, q2, by rw [← q3]; exact size_lt hl, k B1 σ _ fps' q4⟩
      · rw [if_neg hc] at k; exact k.elim
    | exc e => simp only [hf] at k; exact fun B' cls dd H' st ex => k B' σ H' fps cls dd (si.step st) ex
    | no => simp only [hf] at k; exact k.elim
  · exact k.elim
theorem s_setI (i : Nat) {x : Str} {p p2 : Pos} (he : PE X e (tM X.K W f)) (hb : PE X b (tB X.K W fi)) (hN : X.N[i]? = some x := by rfl) (hv : Vis X.env.scope x := by first | exact Or.inl rfl | exact Or.inr (Or.inl rfl) | exact Or.inr (Or.inr rfl)) (hd : (x == ("__debug__" : Str)) = false := by decide)
    (hcd : (x == ("__classdict__" : Str)) = false := by decide)
    (has : ∀ v, assign (.Subscript (.Name x p) b p2) X.env v = (do
      let xs ← holding [v] (eval (.Name x p) X.env)
      let k ← holding [v, xs] (eval b X.env)
      standAt p2
      holding [v, xs, k] (setItem xs k v)
      release [v, xs, k] []) := by intro _; rfl)
    (hs : swapsWithSole [(.Subscript (.Name x p) b p2 : Expr)] e pos.line X.env = pure false := by rfl) (hw : swappedStores [(.Subscript (.Name x p) b p2 : Expr)] e X.env = pure none := by rfl) :
    PS X (.Assign [.Subscript (.Name x p) b p2] e pos) (tS X.K W (sSetI i fi f)) := by
  refine ps_w (ps_asg he (pg_sub (pe_var hN hv hd hcd) hb set_list has) hs hw) fun E σ H hq => ?_
  obtain ⟨B0, H0, B, ss, fps, si, k⟩ := tS_get hq
  refine ⟨B, ss, fps, si.pi, ?_⟩
  unfold sSetI at k
  cases hf : f ss with
  | ok r =>
    obtain ⟨m, d⟩ := r
    simp only [hf] at k
    intro B1 v H1 fp s1 nw
    have si1 := si.step s1
    cases hfi : fi ss with
    | ok r2 =>
      obtain ⟨m2, d2⟩ := r2
      simp only [hfi] at k
      cases d2 <;> first | exact k.elim | skip
      rename_i kk
      simp only [] at k
      split at k
      · rename_i n ds hi
        split at k
        · rename_i j hj
          by_cases hmn : m = n
          · rw [if_pos hmn] at k
            subst hmn
            obtain ⟨ds', p3, xs, fpc, e0, h1, h2, h3, al⟩ := si1.own hi
            cases e0
            refine ⟨.ref p3, h1, B1, ss, fps, si1.pi, ?_⟩
            rw [hfi]
            intro B2 w H2 s2 bw
            have ew := bw.flat (B' := B2) rfl
            rw [Rep] at ew
            subst ew
            obtain ⟨p4, xs4, fps', q1, q2, q3, q4⟩ := (si1.step s2).setI hi (nw.step s2) (fun a ha => by obtain ⟨ys, e⟩ := si.pi.here a ha; rw [e]; exact fun z => nomatch z) si.st.hh hj
            rw [h1] at q1
            cases q1
            exact ⟨p3, xs4, kk, j, rfl, rfl, q2, q3, k B2 σ _ fps' q4⟩
          · rw [if_neg hmn] at k; exact k.elim
        · exact k.elim
      · exact k.elim
    | exc e => simp only [hfi] at k; exact k.elim
    | no => simp only [hfi] at k; exact k.elim
  | exc e => simp only [hf] at k; exact fun B' cls dd H' st ex => k B' σ H' fps cls dd (si.step st) ex
  | no => simp only [hf] at k; exact k.elim
end
end Mv

namespace Mv
open PySem L2

/-! ### comprehensions -/
def wipeS (ss : En) : List Nat → En
  | [] => ss
  | v :: vs => (wipeS ss vs).set v .un
def wipeF (fps : List (List Addr)) : List Nat → List (List Addr)
  | [] => fps
  | v :: vs => (wipeF fps vs).set v []
theorem Pi.wipe {K : PySem.W.Frag} {B H : Hp} {σ : L2.St} {ss : En} {fps : List (List Addr)} (h : Pi K B σ H ss fps) : ∀ vs : List Nat, Pi K B (wipe σ vs) H (wipeS ss vs) (wipeF fps vs)
  | [] => h
  | v :: vs => (Pi.wipe h vs).setUn v
theorem wipe_at (σ : L2.St) : ∀ (vs : List Nat) (i : Nat), (wipe σ vs)[i]? = if i ∈ vs ∧ i < σ.length then some none else σ[i]?
  | [], i => by rw [if_neg (by simp)]; rfl
  | v :: vs, i => by
    show ((wipe σ vs).set v none)[i]? = _
    rw [List.getElem?_set, wipe_length, wipe_at σ vs i]
    by_cases hv : v = i
    · subst hv
      by_cases hl : v < σ.length
      · simp [hl]
      · simp [hl]
    · rw [if_neg hv]
      by_cases hm : i ∈ vs
      · simp [hm]
      · have : i ∉ v :: vs := by simp [hm, Ne.symm hv]
        simp [hm, this]
theorem wipe_set {σ : L2.St} {vs : List Nat} {j : Nat} (hj : j ∈ vs) (o : Option V) : wipe ((wipe σ vs).set j o) vs = wipe σ vs := by
  apply List.ext_getElem?
  intro i
  rw [wipe_at, wipe_at, List.length_set, wipe_length, List.getElem?_set, wipe_length, wipe_at]
  by_cases hc : i ∈ vs ∧ i < σ.length
  · rw [if_pos hc, if_pos hc]
  · rw [if_neg hc, if_neg hc]
    by_cases hji : j = i
    · subst hji
      have hl : ¬ j < σ.length := fun z => hc ⟨hj, z⟩
      rw [if_pos rfl, if_neg hl, List.getElem?_eq_none (by omega)]
    · rw [if_neg hji]
theorem wipe_wipe {σ : L2.St} {vs : List Nat} : wipe (wipe σ vs) vs = wipe σ vs := by
  apply List.ext_getElem?
  intro i
  rw [wipe_at, wipe_at, wipe_length]
  by_cases hc : i ∈ vs ∧ i < σ.length
  · rw [if_pos hc, if_pos hc]
  · rw [if_neg hc, if_neg hc]
theorem wipe_of {σ τ : L2.St} {vs : List Nat} (hl : τ.length = σ.length) (h : ∀ i : Nat, i ∉ vs → τ[i]? = (wipe σ vs)[i]?) : wipe τ vs = wipe σ vs := by
  apply List.ext_getElem?
  intro i
  rw [wipe_at, wipe_at, hl]
  by_cases hi : i ∈ vs
  · by_cases hh : i < σ.length
    · rw [if_pos ⟨hi, hh⟩, if_pos ⟨hi, hh⟩]
    · rw [if_neg (fun z => hh z.2), if_neg (fun z => hh z.2), List.getElem?_eq_none (by omega), List.getElem?_eq_none (by omega)]
  · rw [if_neg (fun z => hi z.1), if_neg (fun z => hi z.1), h i hi, wipe_at, if_neg (fun z => hi z.1)]
/-- a comprehension's target writes its own names alone -/
def TgW (K : PySem.W.Frag) (g : TG) (tgt : Tgt) (vs : List Nat) : Prop := ∀ (B : Hp) (σ : L2.St) (H : Hp) (ss : En) (fps : List (List Addr)) (d : D) (v : V) (s1 : En) (Q : L2.St → Hp → Prop), Pi K B (wipe σ vs) H ss fps → Rep K B d v → tgt d ss = some s1 →
  (∀ σ1 fps1, wipe σ1 vs = wipe σ vs → Pi K B σ1 H s1 fps1 → Q σ1 H) → g v (wipe σ vs) H Q
theorem tw_name {K : PySem.W.Frag} {i : Nat} {vs : List Nat} (hi : i ∈ vs) : TgW K (gName i) (tgName i) vs := by
  intro B σ H ss fps d v s1 Q pi r e k
  cases e
  exact k _ _ (wipe_set hi _) (pi.set0 r i)
theorem tw_pair {K : PySem.W.Frag} {i j : Nat} {vs : List Nat} (hi : i ∈ vs) (hj : j ∈ vs) : TgW K (gTup K 2 (gCons (gName i) (gCons (gName j) gNil))) (tgPair i j) vs := by
  intro B σ H ss fps d v s1 Q pi r e k
  unfold tgPair at e
  split at e
  · rename_i x y
    cases e
    rw [Rep] at r
    obtain ⟨a, xs, rfl, ha, rs⟩ := r
    rw [Reps] at rs
    obtain ⟨vx, us, rfl, r1, rs⟩ := rs
    rw [Reps] at rs
    obtain ⟨vy, us, rfl, r2, rs⟩ := rs
    rw [Reps] at rs
    subst rs
    refine ⟨a, _, rfl, SqT.of (pi.bh _ _ ha), rfl, vx, [vy], rfl, vy, [], rfl, rfl, k _ _ ?_ ((pi.set0 r1 i).set0 r2 j)⟩
    refine wipe_of (by rw [List.length_set, List.length_set, wipe_length]) fun m hm => ?_
    rw [List.getElem?_set_ne (fun z => hm (by rw [← z]; exact hj)), List.getElem?_set_ne (fun z => hm (by rw [← z]; exact hi))]
  · cases e
def lcL (tgt : Tgt) (tc : ET) (fe : EB) (sw : En) : List D → Res (List D)
  | [] => .ok []
  | d :: ds => match tgt d sw with
    | some s1 => (match tc s1 with
      | .ok true => (match fe s1 with
        | .ok (0, e) => (match lcL tgt tc fe sw ds with
          | .ok r => .ok (e :: r)
          | _ => .no)
        | _ => .no)
      | .ok false => lcL tgt tc fe sw ds
      | _ => .no)
    | none => .no
def eLc (vs : List Nat) (fi : EI) (tgt : Tgt) (tc : ET) (fe : EB) : EB := fun ss => match fi ss with
  | .ok ds => if ds.length < 10000000 then (match lcL tgt tc fe (wipeS ss vs) ds with
    | .ok r => .ok (1, .lst r)
    | _ => .no) else .no
  | .exc e => .exc e
  | .no => .no
def tcYes : ET := fun _ => .ok true
abbrev W0 : WX := fun _ _ _ _ => False
theorem lc_of {K : PySem.W.Frag} {W : WX} {vs : List Nat} {fi : EI} {g : TG} {tgt : Tgt} {tc : ET} {fe : EB} (tw : TgW K g tgt vs) (σ : L2.St) (H : Hp) (Q : VK) (hq : tM K W (eLc vs fi tgt tc fe) σ H Q) :
    tLc (tI K W fi) g (tT K W0 tc) (tB K W0 fe) vs σ H Q := by
  obtain ⟨B, ss, fps, pi, k⟩ := hq
  refine ⟨B, ss, fps, pi, ?_⟩
  unfold eLc at k
  cases hfi : fi ss with
  | exc e => rw [hfi] at k; exact k
  | no => rw [hfi] at k; exact k
  | ok ds =>
    simp only [hfi] at k
    by_cases hz : ds.length < 10000000
    · rw [if_pos hz] at k
      intro B1 H1 J s1 wk Da hDa
      -- what is left to do from the items ds' with acc made
      have fin : ∀ (all : List D) (B' H' : Hp) (acc : List V), Stp B1 H1 B' H' → B' Da = none → H' Da = some (.lst acc) → Reps K B' all acc → lcL tgt tc fe (wipeS ss vs) ds = .ok all → Q (.ref Da) H' := by
        intro all B' H' acc st hB hH rs e
        simp only [e] at k
        refine k B' (.ref Da) H' [Da] (s1.trans st) ⟨⟨all, Da, acc, all.map fun _ => [], rfl, rfl, hH, by rw [flat_nils], all_of_reps rs⟩, List.nodup_cons.mpr ⟨(fun z => nomatch z), List.nodup_nil⟩, fun a ha => ?_⟩
        rw [List.mem_singleton] at ha
        subst ha
        exact ⟨hB, s1.hh.back hDa⟩
      have some_ok : ∃ all, lcL tgt tc fe (wipeS ss vs) ds = .ok all := by
        cases e : lcL tgt tc fe (wipeS ss vs) ds with
        | ok all => exact ⟨all, rfl⟩
        | exc x => simp only [e] at k
        | no => simp only [e] at k
      obtain ⟨all, hall⟩ := some_ok
      refine ⟨fun i m H' => m = ds.length - i ∧ i ≤ ds.length ∧ ∃ (B' : Hp) (done : List D) (acc : List V) (rest : List D), Stp B1 H1 B' H' ∧ B' Da = none ∧ H' Da = some (.lst acc) ∧ Reps K B' done acc ∧ done.length ≤ i ∧ lcL tgt tc fe (wipeS ss vs) (ds.drop i) = .ok rest ∧ all = done ++ rest,
        ⟨ds.length, by simp, Nat.zero_le _, B1, [], [], all, ⟨Le.refl _, Le.new hDa, s1.bh.trans (Le.new hDa), fun _ z _ => z⟩, s1.bh.back hDa, upd_same, reps_nil, Nat.le_refl _, by rw [List.drop_zero]; exact hall, rfl⟩, ?_⟩
      rintro i m H' ⟨rfl, hi, B', done, acc, rest, st, hB, hH, rs, hl, hr, hd⟩
      obtain ⟨w1, w2, w3⟩ := wk i B' H' st.bb st.bh
      by_cases hlt : i < ds.length
      · refine .inr ⟨w1 hlt, fun H2 => ∃ (B' : Hp) (done : List D) (acc : List V) (rest : List D), Stp B1 H1 B' H2 ∧ B' Da = none ∧ H2 Da = some (.lst acc) ∧ Reps K B' done acc ∧ done.length ≤ i + 1 ∧ lcL tgt tc fe (wipeS ss vs) (ds.drop (i + 1)) = .ok rest ∧ all = done ++ rest,
          fun H2 q => ⟨ds.length - (i + 1), by omega, rfl, hlt, q⟩, fun x H2 hy => ?_⟩
        obtain ⟨B2, st2, rx⟩ := w3 x H2 ds[i] (List.getElem?_eq_getElem hlt) hy
        have hdr : ds.drop i = ds[i] :: ds.drop (i + 1) := List.drop_eq_getElem_cons hlt
        rw [hdr] at hr
        unfold lcL at hr
        have keepB : ∀ {Bx Hx : Hp}, Stp B' H' Bx Hx → Bx Da = none ∧ Hx Da = some (.lst acc) := fun s => ⟨s.dj Da hB ⟨_, hH⟩, s.hh _ _ hH⟩
        cases ht1 : tgt ds[i] (wipeS ss vs) with
        | none => simp only [ht1] at hr; cases hr
        | some s1' =>
          simp only [ht1] at hr
          have pi2 : Pi K B2 (wipe σ vs) H2 (wipeS ss vs) (wipeF fps vs) := ((pi.step s1).wipe vs).step (st.trans st2)
          refine tw B2 σ H2 _ _ ds[i] x s1' _ pi2 rx ht1 fun σ1 fps1 hw pi3 => ⟨hw, B2, s1', fps1, pi3, ?_⟩
          cases htc : tc s1' with
          | exc e => simp only [htc] at hr; cases hr
          | no => simp only [htc] at hr; cases hr
          | ok b =>
            simp only [htc] at hr
            intro B3 H3 st3
            cases b with
            | false =>
              obtain ⟨q1, q2⟩ := keepB (st2.trans st3)
              rw [(if_neg Bool.false_ne_true)]
              exact ⟨B3, done, acc, rest, st.trans (st2.trans st3), q1, q2, Reps.mono (st2.trans st3).bb _ _ rs, by omega, hr, hd⟩
            | true =>
              rw [if_pos rfl]
              refine ⟨B3, s1', fps1, pi3.step st3, ?_⟩
              cases hfe : fe s1' with
              | exc e => simp only [hfe] at hr; cases hr
              | no => simp only [hfe] at hr; cases hr
              | ok r =>
                obtain ⟨n, e⟩ := r
                simp only [hfe] at hr
                cases n with
                | succ n => simp only [] at hr; cases hr
                | zero =>
                  simp only [] at hr
                  intro B4 y H4 st4 bw
                  have st24 := (st2.trans st3).trans st4
                  obtain ⟨q1, q2⟩ := keepB st24
                  cases hrr : lcL tgt tc fe (wipeS ss vs) (ds.drop (i + 1)) with
                  | exc e => simp only [hrr] at hr; cases hr
                  | no => simp only [hrr] at hr; cases hr
                  | ok rest' =>
                    simp only [hrr] at hr
                    cases hr
                    have hst := st.trans st24
                    refine ⟨acc, q2, by rw [← rs.length]; exact size_lt (by omega), B4, done ++ [e], acc ++ [y], rest', ⟨hst.bb, Le.mut hst.hh hDa, Le.mut hst.bh q1, hst.dj⟩, q1, upd_same, (Reps.mono st24.bb _ _ rs).append (reps_cons bw.rep reps_nil), by rw [List.length_append]; simp; omega, rfl, by rw [hd, List.append_assoc]; rfl⟩
      · have e : i = ds.length := by omega
        rw [List.drop_eq_nil_of_le (Nat.le_of_eq e.symm)] at hr
        cases hr
        refine .inl ⟨w2 (Nat.le_of_eq e.symm), fin done B' H' acc st hB hH rs ?_⟩
        rw [hall, hd, List.append_nil]
    · rw [if_neg hz] at k; exact k.elim
section
variable {X : Cx} {W : WX} {elt tg iter : Expr} {ifs : List Expr} {scope : Scope} {own : List (Str × Nat)} {pos spos py : Pos} {fi : EI} {g : TG} {tgt : Tgt} {tc : ET} {fe : EB}
theorem pts_w {X : Cx} {ifs : List Expr} {t u : TT} (h : PTs X ifs t) (k : ∀ σ H Q, u σ H Q → t σ H Q) : PTs X ifs u := ⟨fun pins s σ H Q I q => h.run pins s σ H Q I (k σ H Q q)⟩
theorem c_nil {W : WX} : PTs X [] (tT X.K W tcYes) := by
  refine pts_w pts_nil fun σ H Q hq => ?_
  obtain ⟨B, ss, fps, pi, k⟩ := hq
  exact k B H (.refl pi.bh)
theorem c_one {W : WX} {c : Expr} (h : PT X c (tT X.K W tc)) : PTs X [c] (tT X.K W tc) := pts_one h
theorem m_lc (hc : X.calm = true) (hN : X.N.Nodup) (hi : PI X tg iter (tI X.K W fi)) (ok : BlkOk X.N X.env.scope scope own) (tw : TgW X.K g tgt (own.map (·.2)))
    (hg : ∀ (s : Shared) (H : Hp) (C : Addr) (cl : List (Str × Addr)) (fp : List Addr), PG (X.blk s H scope (compEnvC scope cl C X.env) fp) tg g) (ht : ∀ (s : Shared) (H : Hp) (C : Addr) (cl : List (Str × Addr)) (fp : List Addr), PTs (X.blk s H scope (compEnvC scope cl C X.env) fp) ifs (tT X.K W0 tc))
    (he : ∀ (s : Shared) (H : Hp) (C : Addr) (cl : List (Str × Addr)) (fp : List Addr), PE (X.blk s H scope (compEnvC scope cl C X.env) fp) elt (tB X.K W0 fe)) (hs : ∀ x, foldedSetIterable iter X.env x = pure x := by intro _; rfl) :
    PE X (.ListComp elt [⟨tg, iter, ifs, 0⟩] scope pos) (tM X.K W (eLc (own.map (·.2)) fi tgt tc fe)) :=
  pe_w (pe_lc hc hN hi ok hg ht he hs) fun σ H Q hq => lc_of tw σ H Q hq
theorem s_setLc {i : Nat} {y : Str} (hc : X.calm = true) (hN : X.N.Nodup) (hy : X.N[i]? = some y) (hyl : X.env.scope.names.lookup y = some .local)
    (hsw : swapsWith (.ListComp elt [⟨tg, iter, ifs, 0⟩] scope pos) (some (.Name y py)) spos.line X.env = pure true) (hi : PI X tg iter (tI X.K W fi)) (ok : BlkOk X.N X.env.scope scope own) (tw : TgW X.K g tgt (own.map (·.2)))
    (hg : ∀ (s : Shared) (H : Hp) (C : Addr) (cl : List (Str × Addr)) (fp : List Addr), PG (X.blk s H scope (compEnvC scope cl C X.env) fp) tg g) (ht : ∀ (s : Shared) (H : Hp) (C : Addr) (cl : List (Str × Addr)) (fp : List Addr), PTs (X.blk s H scope (compEnvC scope cl C X.env) fp) ifs (tT X.K W0 tc))
    (he : ∀ (s : Shared) (H : Hp) (C : Addr) (cl : List (Str × Addr)) (fp : List Addr), PE (X.blk s H scope (compEnvC scope cl C X.env) fp) elt (tB X.K W0 fe)) (hs : ∀ x, foldedSetIterable iter X.env x = pure x := by intro _; rfl) :
    PS X (.Assign [.Name y py] (.ListComp elt [⟨tg, iter, ifs, 0⟩] scope pos) spos) (tS X.K W (sAsg i (eLc (own.map (·.2)) fi tgt tc fe))) := by
  refine ps_w (ps_setLc hc hN hy hyl hsw hi ok hg ht he hs) fun E σ H hq => ?_
  have q := asg_of hq
  exact lc_of tw σ H _ q
end
end Mv

namespace Mv
open PySem L2

/-! ### x += n -/
section
variable {X : Cx} {W : WX} {e a b : Expr} {es : List Expr} {pos : Pos} {f f1 f2 fi : EB} {g1 : EA}
theorem s_aug {i : Nat} {x : Str} {op : Operator} {g : Int → Int → Int} {pos' : Pos} (hN : X.N.Nodup) (hi : X.N[i]? = some x) (hx : Loc X.env.scope x) (he : PE X e (tB X.K W f)) (ho : PIp X op (ipI g)) (hf : X.fn x = true ∨ X.env.scope.names.lookup x = some .local := by first | exact .inl rfl | exact .inr rfl | assumption) :
    PS X (.AugAssign (.Name x pos') op e pos) (tS X.K W (sAug i g f)) := by
  refine ps_w (ps_aug hN hi hx he ho hf) fun E σ H hq => ?_
  obtain ⟨B0, H0, B, ss, fps, si, k⟩ := tS_get hq
  unfold sAug at k
  split at k
  · rename_i n hs
    obtain ⟨v, h1, h2⟩ := si.pi.get hs
    have ev := h2.rep
    rw [Rep] at ev
    subst ev
    refine ⟨.int n, h1, B, ss, fps, si.pi, ?_⟩
    cases hf : f ss with
    | ok r =>
      obtain ⟨m, d⟩ := r
      simp only [hf] at k
      cases d <;> first | exact k.elim | skip
      rename_i j
      simp only [] at k
      intro B1 w H1 s1 bw
      have ew := bw.flat (B' := B1) rfl
      rw [Rep] at ew
      subst ew
      exact ⟨n, j, rfl, rfl, k B1 _ H1 _ ((si.step s1).set0 rep_int i)⟩
    | exc e => simp only [hf] at k; exact fun B' cls dd H' st ex => k B' σ H' fps cls dd (si.step st) ex
    | no => simp only [hf] at k; exact k.elim
  · exact k.elim

/-! ### list + list, list * int, list(..) -/
end
def eCat (f1 f2 : EB) : EB := fun ss => match f1 ss with
  | .ok (n, .lst xs) => (match f2 ss with
    | .ok (m, .lst ys) => if n ≤ 1 ∧ m ≤ 1 ∧ xs.length + ys.length ≤ 10000000 then .ok (1, .lst (xs ++ ys)) else .no
    | .ok (_, _) => .no
    | .exc e => .exc e
    | .no => .no)
  | .ok (_, _) => .no
  | .exc e => .exc e
  | .no => .no
def eRep (f1 f2 : EB) : EB := fun ss => match f1 ss with
  | .ok (n, .lst xs) => (match f2 ss with
    | .ok (_, .int k) => if n ≤ 1 ∧ smallI k = true ∧ xs.length * k.toNat ≤ 10000000 then .ok (1, .lst (List.replicate k.toNat xs).flatten) else .no
    | .ok (_, _) => .no
    | .exc e => .exc e
    | .no => .no)
  | .ok (_, _) => .no
  | .exc e => .exc e
  | .no => .no
section
variable {X : Cx} {W : WX} {e a b : Expr} {es : List Expr} {pos p : Pos} {f f1 f2 fi : EB} {g1 : EA}
theorem m_cat (ha : PE X a (tB X.K W f1)) (hb : PE X b (tB X.K W f2)) : PE X (.BinOp a .Add b pos) (tM X.K W (eCat f1 f2)) := by
  refine pe_w (pe_op op_cat ha hb) fun σ H Q hq => ?_
  obtain ⟨B, ss, fps, pi, k⟩ := hq
  refine ⟨B, ss, fps, pi, ?_⟩
  unfold eCat at k
  cases h1 : f1 ss with
  | ok r =>
    obtain ⟨n, d⟩ := r
    simp only [h1] at k
    cases d <;> first | exact k.elim | skip
    rename_i xs
    simp only [] at k
    intro B1 v H1 s1 bw
    refine ⟨B1, ss, fps, pi.step s1, ?_⟩
    cases h2 : f2 ss with
    | ok r =>
      obtain ⟨m, d⟩ := r
      simp only [h2] at k
      cases d <;> first | exact k.elim | skip
      rename_i ys
      simp only [] at k
      by_cases hc : n ≤ 1 ∧ m ≤ 1 ∧ xs.length + ys.length ≤ 10000000
      · rw [if_pos hc] at k
        intro B2 w H2 s2 bw2
        obtain ⟨p, us, rfl, hp, rs⟩ := (bw.le s2.bb s2.hh).items s2.bh hc.1
        obtain ⟨q, ws, rfl, hq, rs2⟩ := bw2.items s2.bh hc.2.1
        refine ⟨p, q, us, ws, rfl, rfl, hp, hq, by rw [← rs.length, ← rs2.length]; exact size_ok hc.2.2, fun l hl => ?_⟩
        obtain ⟨q1, q2⟩ := new_list (s1.trans s2) (rs.append rs2) hl
        exact k _ _ _ _ q1 q2
      · rw [if_neg hc] at k; exact k.elim
    | exc e => simp only [h2] at k; exact fun B' cls dd H' s ex => k B' cls dd H' (s1.trans s) ex
    | no => simp only [h2] at k
  | exc e => simp only [h1] at k; exact k
  | no => simp only [h1] at k
theorem m_rep (ha : PE X a (tB X.K W f1)) (hb : PE X b (tB X.K W f2)) : PE X (.BinOp a .Mult b pos) (tM X.K W (eRep f1 f2)) := by
  refine pe_w (pe_op op_rep ha hb) fun σ H Q hq => ?_
  obtain ⟨B, ss, fps, pi, k⟩ := hq
  refine ⟨B, ss, fps, pi, ?_⟩
  unfold eRep at k
  cases h1 : f1 ss with
  | ok r =>
    obtain ⟨n, d⟩ := r
    simp only [h1] at k
    cases d <;> first | exact k.elim | skip
    rename_i xs
    simp only [] at k
    intro B1 v H1 s1 bw
    refine ⟨B1, ss, fps, pi.step s1, ?_⟩
    cases h2 : f2 ss with
    | ok r =>
      obtain ⟨m, d⟩ := r
      simp only [h2] at k
      cases d <;> first | exact k.elim | skip
      rename_i j
      simp only [] at k
      by_cases hc : n ≤ 1 ∧ smallI j = true ∧ xs.length * j.toNat ≤ 10000000
      · rw [if_pos hc] at k
        intro B2 w H2 s2 bw2
        obtain ⟨p, us, rfl, hp, rs⟩ := (bw.le s2.bb s2.hh).items s2.bh hc.1
        have ew := bw2.flat (B' := B2) rfl
        rw [Rep] at ew
        subst ew
        obtain ⟨h3, h4⟩ := smallI_of hc.2.1
        refine ⟨p, j, us, rfl, rfl, hp, by omega, by omega, by rw [← rs.length]; exact size_ok hc.2.2, fun l hl => ?_⟩
        obtain ⟨q1, q2⟩ := new_list (s1.trans s2) (rs.rep j.toNat) hl
        exact k _ _ _ _ q1 q2
      · rw [if_neg hc] at k; exact k.elim
    | exc e => simp only [h2] at k; exact fun B' cls dd H' s ex => k B' cls dd H' (s1.trans s) ex
    | no => simp only [h2] at k
  | exc e => simp only [h1] at k; exact k
  | no => simp only [h1] at k
end
/-- list(x): a copy -/
def eList (f : EB) : EB := fun ss => match f ss with
  | .ok (n, .lst xs) => if n ≤ 1 then .ok (1, .lst xs) else .no
  | .ok (0, .tup xs) => .ok (1, .lst xs)
  | .ok (_, _) => .no
  | .exc e => .exc e
  | .no => .no
section
variable {X : Cx} {W : WX} {e a b : Expr} {es : List Expr} {x : Str} {pos p : Pos} {f f1 f2 fi : EB} {g1 : EA}
theorem tup_items {K : PySem.W.Frag} {B H : Hp} {n : Nat} {ds : List D} {v : V} (bh : Le B H) (h : Bw K B H n (.tup ds) v) : ∃ p xs, v = .ref p ∧ B p = some (.tup xs) ∧ Reps K B ds xs := by
  obtain ⟨fp, ow⟩ := h
  cases n with
  | succ n => obtain ⟨_, _, _, _, z, _⟩ := ow; cases z
  | zero =>
    obtain ⟨_, r⟩ := ow
    rw [Rep] at r
    exact r
theorem m_list (hgl : Gl X "list") (hm : X.mg "list" = none) (ha : PE X e (tB X.K W f)) (hs : starEach [e] X.env = (false, eval e X.env) :: starEach [] X.env := by rfl) (hpl : (backTo pos (starEach [] X.env)).any (·.1) = false := by rfl) :
    PE X (.Call (.Name "list" p) [e] [] pos) (tM X.K W (eList f)) := by
  refine pe_w (pe_callTy call_list_of hgl hm (by decide +kernel) (pa_cons ha pa_nil hs) (by decide) (by decide) hs hpl) fun σ H Q hq => ?_
  obtain ⟨B, ss, fps, pi, k⟩ := hq
  refine ⟨B, ss, fps, pi, ?_⟩
  unfold eList at k
  cases h1 : f ss with
  | ok r =>
    obtain ⟨n, d⟩ := r
    simp only [h1] at k
    intro B1 v H1 s1 bw
    by_cases hl : ∃ xs, d = .lst xs
    · obtain ⟨xs, rfl⟩ := hl
      by_cases hn : n ≤ 1
      · have k' : ∀ B' v H' fp, Stp B H B' H' → New X.K H B' H' 1 (.lst xs) v fp → Q v H' := by simpa only [hn, if_true] using k
        obtain ⟨q, us, rfl, hq, rs⟩ := bw.items s1.bh hn
        refine ⟨q, us, rfl, .inl (SqL.of hq), fun l hl => ?_⟩
        obtain ⟨q1, q2⟩ := new_list s1 rs hl
        exact k' _ _ _ _ q1 q2
      · exfalso; simp [hn] at k
    · by_cases ht : ∃ xs, n = 0 ∧ d = .tup xs
      · obtain ⟨xs, rfl, rfl⟩ := ht
        have k' : ∀ B' v H' fp, Stp B H B' H' → New X.K H B' H' 1 (.lst xs) v fp → Q v H' := k
        obtain ⟨q, us, rfl, hq, rs⟩ := tup_items s1.bh bw
        refine ⟨q, us, rfl, .inr (SqT.of (s1.bh _ _ hq)), fun l hl => ?_⟩
        obtain ⟨q1, q2⟩ := new_list s1 rs hl
        exact k' _ _ _ _ q1 q2
      · exfalso
        cases n <;> cases d <;> first | exact k | exact hl ⟨_, rfl⟩ | exact ht ⟨_, rfl, rfl⟩
  | exc e => simp only [h1] at k; exact k
  | no => simp only [h1] at k

/-! ### built-ins with flat answers -/
end
def gLen : List D → Option D
  | [.lst xs] => some (.int xs.length)
  | [.tup xs] => some (.int xs.length)
  | [.rdl xs] => some (.int xs.length)
  | [.str x] => if x.length ≤ sizeLine then some (.int x.length) else none
  | _ => none
def gAbs : List D → Option D
  | [.int i] => some (.int (if i < 0 then -i else i))
  | _ => none
def gToInt : List D → Option D
  | [.int i] => some (.int i)
  | _ => none
def gMax2 : List D → Option D
  | [.int i, .int j] => some (.int (if j > i then j else i))
  | _ => none
def gMin2 : List D → Option D
  | [.int i, .int j] => some (.int (if j < i then j else i))
  | _ => none
section
variable {X : Cx} {K : PySem.W.Frag}
theorem ok_len : ClOk X.K (fun xs H Q => ∃ x n, xs = [x] ∧ LenV X.K x H n ∧ Q (.int n) H) gLen := by
  intro H ds d vs Q rs e k
  match ds, rs, e with
  | [d0], rs, e =>
    rw [Reps] at rs
    obtain ⟨v, us, rfl, r, rs⟩ := rs
    rw [Reps] at rs
    subst rs
    cases d0 <;> first | (cases e; done) | skip
    case str x =>
      unfold gLen at e
      by_cases hz : x.length ≤ sizeLine
      · simp only [hz, if_true] at e
        cases e
        rw [Rep] at r
        subst r
        exact ⟨_, _, rfl, ⟨hz, rfl⟩, k _ fun _ => rep_int⟩
      · simp [hz] at e
    case lst xs =>
      cases e
      rw [Rep] at r
      obtain ⟨p, us, rfl, hp, rs⟩ := r
      exact ⟨_, xs.length, rfl, .inl ⟨us, SqL.of hp, rs.length⟩, k _ fun _ => rep_int⟩
    case tup xs =>
      cases e
      rw [Rep] at r
      obtain ⟨p, us, rfl, hp, rs⟩ := r
      exact ⟨_, xs.length, rfl, .inr ⟨us, SqT.of hp, rs.length⟩, k _ fun _ => rep_int⟩
    case rdl xs =>
      cases e
      rw [Rep] at r
      obtain ⟨p, us, rfl, hp, rs⟩ := r
      exact ⟨_, xs.length, rfl, .inl ⟨us, hp, rs.length⟩, k _ fun _ => rep_int⟩
  | [], rs, e => cases e
  | d0 :: d1 :: ds, rs, e => cases d0 <;> cases e
theorem ok_abs : ClOk X.K (fun xs H Q => ∃ i, xs = [.int i] ∧ Q (.int (if i < 0 then -i else i)) H) gAbs := by
  intro H ds d vs Q rs e k
  unfold gAbs at e
  split at e
  · rename_i i
    rw [reps1 rs]
    cases e
    exact ⟨i, rfl, k _ fun _ => rep_int⟩
  · cases e
theorem ok_toInt : ClOk X.K (fun xs H Q => (∃ i, xs = [.int i] ∧ Q (.int i) H) ∨ ∃ k, xs = [.bl k] ∧ Q (.int (if k then 1 else 0)) H) gToInt := by
  intro H ds d vs Q rs e k
  unfold gToInt at e
  split at e
  · rename_i i
    rw [reps1 rs]
    cases e
    exact .inl ⟨i, rfl, k _ fun _ => rep_int⟩
  · cases e
theorem ok_max2 : ClOk X.K (fun xs H Q => ∃ i j, xs = [.int i, .int j] ∧ Q (.int (if j > i then j else i)) H) gMax2 := by
  intro H ds d vs Q rs e k
  unfold gMax2 at e
  split at e
  · rename_i i j
    rw [reps2 rs]
    cases e
    exact ⟨i, j, rfl, k _ fun _ => rep_int⟩
  · cases e
theorem ok_min2 : ClOk X.K (fun xs H Q => ∃ i j, xs = [.int i, .int j] ∧ Q (.int (if j < i then j else i)) H) gMin2 := by
  intro H ds d vs Q rs e k
  unfold gMin2 at e
  split at e
  · rename_i i j
    rw [reps2 rs]
    cases e
    exact ⟨i, j, rfl, k _ fun _ => rep_int⟩
  · cases e
end
section
variable {X : Cx} {W : WX} {e a b : Expr} {es : List Expr} {pos p : Pos} {g1 : EA}
theorem b_len (hgl : Gl X "len") (hm : X.mg "len" = none) (ha : PA X [e] (tAh X.K W g1)) (he : starEach [e] X.env = (false, eval e X.env) :: starEach [] X.env := by rfl) (hpl : (backTo pos (starEach [] X.env)).any (·.1) = false := by rfl) :
    PE X (.Call (.Name "len" p) [e] [] pos) (tB X.K W (eCall gLen g1)) := b_callB call_len ok_len hgl hm PySem.boot_len ha (by decide) (by decide) he hpl
theorem b_abs (hgl : Gl X "abs") (hm : X.mg "abs" = none) (ha : PA X [e] (tAh X.K W g1)) (he : starEach [e] X.env = (false, eval e X.env) :: starEach [] X.env := by rfl) (hpl : (backTo pos (starEach [] X.env)).any (·.1) = false := by rfl) :
    PE X (.Call (.Name "abs" p) [e] [] pos) (tB X.K W (eCall gAbs g1)) := b_callB call_abs ok_abs hgl hm (by decide +kernel) ha (by decide) (by decide) he hpl
theorem b_toInt (hgl : Gl X "int") (hm : X.mg "int" = none) (ha : PA X [e] (tAh X.K W g1)) (he : starEach [e] X.env = (false, eval e X.env) :: starEach [] X.env := by rfl) (hpl : (backTo pos (starEach [] X.env)).any (·.1) = false := by rfl) :
    PE X (.Call (.Name "int" p) [e] [] pos) (tB X.K W (eCall gToInt g1)) := b_callTy call_int1 ok_toInt hgl hm (by decide +kernel) ha (by decide) (by decide) he hpl
theorem b_max2 (hc : X.calm = true) (hgl : Gl X "max") (hm : X.mg "max" = none) (ha : PA X [a, b] (tAh X.K W g1)) (he : starEach [a, b] X.env = (false, eval a X.env) :: starEach [b] X.env := by rfl) (hpl : (backTo pos (starEach [b] X.env)).any (·.1) = false := by rfl) :
    PE X (.Call (.Name "max" p) [a, b] [] pos) (tB X.K W (eCall gMax2 g1)) := b_callB (call_max2 hc) ok_max2 hgl hm (by decide +kernel) ha (by decide) (by decide) he hpl
theorem b_min2 (hc : X.calm = true) (hgl : Gl X "min") (hm : X.mg "min" = none) (ha : PA X [a, b] (tAh X.K W g1)) (he : starEach [a, b] X.env = (false, eval a X.env) :: starEach [b] X.env := by rfl) (hpl : (backTo pos (starEach [b] X.env)).any (·.1) = false := by rfl) :
    PE X (.Call (.Name "min" p) [a, b] [] pos) (tB X.K W (eCall gMin2 g1)) := b_callB (call_min2 hc) ok_min2 hgl hm (by decide +kernel) ha (by decide) (by decide) he hpl
end

/-! ### defs -/
abbrev FM := List D → Res (Nat × D)
def spM (K : PySem.W.Frag) (m : FM) : Sp := fun vs H Q E => ∃ B ds, Le B H ∧ Reps K B ds vs ∧ match m ds with
  | .ok (n, d) => ∀ B' v H' fp, Stp B H B' H' → New K H B' H' n d v fp → Q v H'
  | .exc e => ∀ B' cls dd H', Stp B H B' H' → ExR K B' H' e cls dd → E cls dd H'
  | .no => False
/-- a def's mirror, from its body's -/
def fnM (np nn : Nat) (F : SM) : FM := fun ds => if ds.length = np then (match F (ds.map (Sl.v 0) ++ List.replicate (nn - np) .un) with
  | .nx _ => .ok (0, .non)
  | .rt n d => .ok (n, d)
  | .ru d _ => .ok (0, d)
  | .exc e _ => .exc e
  | _ => .no) else .no
section
variable {P : Program} {w : World} {K : PySem.W.Frag} {base : Heap} {mg : Str → Option Value}
/-- Fun.ok for a def that may raise; what it raises has no context -/
theorem okN {x qual : Str} {st : Stmt} {f : Addr} {fd : FuncData} {N ps : List Str} {k : Nat} {sp : Sp} (F : Fun K x qual st f fd) (S : FnScope N ps (defScope st)) (len : ∀ vs H Q E, sp vs H Q E → vs.length = ps.length)
    (hbody : ∀ (cdv : Value) (A : Around) (outer : List Env) (s : Shared) (H : Hp) (vs : List V) (Q : VK) (E : XK), Room k (A.deeper (PyProof.Rows.envOfC qual (defScope st) s.heap.objs.size f cdv)) → sp vs H Q E →
      ∃ t, PSs (cxOf (L2N.CX P w) P w K mg base N qual (defScope st) f cdv A outer s H E) (defBody st) t ∧ t { nx := fun _ H' => Q .non H', rt := Q } (L2.start N vs) H) : FnOk P w K mg base (L2N.CX P w) (k + 1) f fd ps sp := by
  rcases F.ex with ⟨oc, od, kV, doc, pm, an, cdv, ct, osl, rfl, lk, hcd⟩
  exact (fn_of lk hcd S len fun A outer s H vs Q E hr hsp => hbody cdv A outer s H vs Q E hr hsp)
theorem takesN0 {X : Cx} : L2N.Takes X (fun _ _ _ _ => False) := fun _ _ x => by
  rcases x with ⟨_, _, _, _, _, _, _, _, _, _, _, _, _, _, _, _, z⟩
  exact z.elim
theorem fn_okM {x qual : Str} {st : Stmt} {f : Addr} {fd : FuncData} {N ps : List Str} {k : Nat} {F : SM} (np nn : Nat) (hnp : ps.length = np) (hnn : N.length = nn) (Fn : Fun K x qual st f fd) (S : FnScope N ps (defScope st))
    (hbody : ∀ (cdv : Value) (A : Around) (outer : List Env) (s : Shared) (H : Hp) (E : XK), Room k (A.deeper (PyProof.Rows.envOfC qual (defScope st) s.heap.objs.size f cdv)) →
      PSs (cxOf (L2N.CX P w) P w K mg base N qual (defScope st) f cdv A outer s H E) (defBody st) (tS K (fun cls d _ H => E cls d H) F)) :
    FnOk P w K mg base (L2N.CX P w) (k + 1) f fd ps (spM K (fnM np nn F)) := by
  subst hnp hnn
  refine okN Fn S (fun vs H Q E h => ?_) (fun cdv A outer s H vs Q E hr h => ⟨_, hbody cdv A outer s H E hr, ?_⟩)
  · obtain ⟨B, ds, _, rs, k⟩ := h
    unfold fnM at k
    by_cases hl : ds.length = ps.length
    · rw [← rs.length, hl]
    · rw [if_neg hl] at k; exact k.elim
  · obtain ⟨B, ds, le, rs, k⟩ := h
    unfold fnM at k
    by_cases hl : ds.length = ps.length
    · rw [if_pos hl] at k
      have hv : vs.length = ps.length := by rw [← rs.length, hl]
      have si := SI.start le rs (N.length - ps.length)
      unfold L2.start
      rw [hv]
      refine tS_mk si ?_
      cases hF : F (ds.map (Sl.v 0) ++ List.replicate (N.length - ps.length) .un) with
      | nx s' => simp only [hF] at k; exact fun B' σ' H' fps' si' => k B' .non H' [] si'.st ⟨⟨rfl, rep_non⟩, List.nodup_nil, fun a z => nomatch z⟩
      | rt n d => simp only [hF] at k; exact k
      | bk s' => simp only [hF] at k
      | ct s' => simp only [hF] at k
      | exc e s' => simp only [hF] at k; exact fun B' σ' H' fps' cls dd si' ex => k B' cls dd H' si'.st ex
      | ru d s' => simp only [hF] at k; exact fun B' v σ' H' fps' si' r => k B' v H' [] si'.st ⟨⟨rfl, r⟩, List.nodup_nil, fun a z => nomatch z⟩
      | no => simp only [hF] at k
    · rw [if_neg hl] at k; exact k.elim
end
def eFn (m : FM) (ga : EA) : EB := fun ss => match ga ss with
  | .ok ds => m ds
  | .exc e => .exc e
  | .no => .no
def flatX (e : Exo) : Bool := match e.fs with
  | none => true
  | some fs => fs.all fun p => flat p.2
theorem repF_flat {K : PySem.W.Frag} {B B' : Hp} : ∀ {fs : List (Str × D)} {gs : List (Str × V)}, (fs.all fun p => flat p.2) = true → RepF K B fs gs → RepF K B' fs gs
  | [], gs, _, h => by rw [RepF] at *; exact h
  | (n, d) :: fs, gs, hf, h => by
    rw [List.all_cons,
      Bool.and_eq_true] at hf
    rw [RepF] at *
    obtain ⟨v, vs, e, h1, h2⟩ := h
    exact ⟨v, vs, e, h1.flat hf.1, repF_flat hf.2 h2⟩
theorem exR_flat {K : PySem.W.Frag} {B B' H : Hp} {e : Exo} {cls : Value} {dd : Option Addr} (hf : flatX e = true) (h : ExR K B H e cls dd) : ExR K B' H e cls dd := by
  unfold ExR at *
  unfold flatX at hf
  obtain ⟨h1, h2⟩ := h
  refine ⟨h1, ?_⟩
  cases hfs : e.fs with
  | none => rw [hfs] at h2; exact h2
  | some fs =>
    rw [hfs] at h2 hf
    obtain ⟨d, gs, q1, q2, q3⟩ := h2
    exact ⟨d, gs, q1, q2, repF_flat hf q3⟩
def eFnF (m : FM) (ga : EA) : EB := fun ss => match ga ss with
  | .ok ds => (match m ds with
    | .ok (_, d) => if flat d then .ok (0, d) else .no
    | .exc e => if flatX e then .exc e else .no
    | .no => .no)
  | .exc e => .exc e
  | .no => .no
section
variable {X : Cx} {W : WX} {e a b : Expr} {es : List Expr} {pos p : Pos} {g1 : EA} {m : FM} {k : Nat} {f : Addr} {fd : FuncData} {ps : List Str} {x : Str}
/-- f(..): what comes back is new -/
theorem m_call (F : FnOk X.prog X.w X.K X.mg X.base (L2N.CX X.prog X.w) k f fd ps (spM X.K m)) (tk : L2N.Takes X W) (hr : Room k X.A) (hg : Gl X x) (hm : X.mg x = some (.ref f)) (hk : PySem.W.keepIn X.K (.ref f) = true) (hb : Binds X.K fd ps [])
    (ha : PA X (e :: es) (tA X.K W g1)) (hdb : (x == ("__debug__" : Str)) = false := by decide) (he : starEach (e :: es) X.env = (false, eval e X.env) :: starEach es X.env := by rfl) (hpl : (backTo pos (starEach es X.env)).any (·.1) = false := by rfl) :
    PE X (.Call (.Name x p) (e :: es) [] pos) (tM X.K W (eFn m g1)) := by
  refine pe_w (pe_callS F hr hg hm hk hb (fun σ => L2N.passAt tk σ) ha hdb he hpl) fun σ H Q hq => ?_
  obtain ⟨B, ss, fps, pi, k⟩ := hq
  refine ⟨B, ss, fps, pi, ?_⟩
  unfold eFn at k
  cases h1 : g1 ss with
  | ok ds =>
    simp only [h1] at k
    intro B1 vs H1 s1 rs
    refine ⟨B1, ds, s1.bh, rs, ?_⟩
    cases h2 : m ds with
    | ok r =>
      obtain ⟨n, d⟩ := r
      simp only [h2] at k
      exact fun B' v H' fp st nw => k B' v H' fp (s1.trans st) ⟨nw.ow, nw.nd, fun a ha => ⟨(nw.fr a ha).1, s1.hh.back (nw.fr a ha).2⟩⟩
    | exc e => simp only [h2] at k; exact fun B' cls dd H' st ex => k B' cls dd H' (s1.trans st) ex
    | no => simp only [h2] at k
  | exc e => simp only [h1] at k; exact k
  | no => simp only [h1] at k
/-- f(..): a flat answer; the arguments borrowed -/
theorem b_callF (F : FnOk X.prog X.w X.K X.mg X.base (L2N.CX X.prog X.w) k f fd ps (spM X.K m)) (tk : L2N.Takes X W) (hr : Room k X.A) (hg : Gl X x) (hm : X.mg x = some (.ref f)) (hk : PySem.W.keepIn X.K (.ref f) = true) (hb : Binds X.K fd ps [])
    (ha : PA X (e :: es) (tAh X.K W g1)) (hdb : (x == ("__debug__" : Str)) = false := by decide) (he : starEach (e :: es) X.env = (false, eval e X.env) :: starEach es X.env := by rfl) (hpl : (backTo pos (starEach es X.env)).any (·.1) = false := by rfl) :
    PE X (.Call (.Name x p) (e :: es) [] pos) (tB X.K W (eFnF m g1)) := by
  refine pe_w (pe_callS F hr hg hm hk hb (fun σ => L2N.passAt tk σ) ha hdb he hpl) fun σ H Q hq => ?_
  obtain ⟨B, ss, fps, pi, k⟩ := hq
  refine ⟨B, ss, fps, pi, ?_⟩
  unfold eFnF at k
  cases h1 : g1 ss with
  | ok ds =>
    simp only [h1] at k
    intro B1 vs H1 s1 rs
    refine ⟨H1, ds, Le.refl _, rs, ?_⟩
    cases h2 : m ds with
    | ok r =>
      obtain ⟨n, d⟩ := r
      simp only [h2] at k
      by_cases hf : flat d = true
      · rw [if_pos hf] at k
        intro B' v H' fp st nw
        have s2 : Stp B1 H1 B1 H' := ⟨Le.refl _, st.hh, s1.bh.trans st.hh, fun _ z _ => z⟩
        exact k B1 v H' (s1.trans s2) (bw0 (nw.ow.bw.flat hf))
      · rw [if_neg hf] at k; exact k.elim
    | exc e =>
      simp only [h2] at k
      by_cases hf : flatX e = true
      · rw [if_pos hf] at k
        intro B' cls dd H' st ex
        have s2 : Stp B1 H1 B1 H' := ⟨Le.refl _, st.hh, s1.bh.trans st.hh, fun _ z _ => z⟩
        exact k B1 cls dd H' (s1.trans s2) (exR_flat hf ex)
      · rw [if_neg hf] at k; exact k.elim
    | no => simp only [h2] at k
  | exc e => simp only [h1] at k; exact k
  | no => simp only [h1] at k
end
end Mv

namespace Mv
open PySem L2

section
variable {P : Program} {w : World} {K : PySem.W.Frag} {mg : Str → Option Value} {base : Heap} {N : List Str} {qual : Str} {scope : Scope} {f : Addr} {cdv : Value} {A : Around} {outer : List Env} {s : Shared} {H : Hp} {E : XK}
abbrev cxN (P : Program) (w : World) (K : PySem.W.Frag) (mg : Str → Option Value) (base : Heap) (N : List Str) (qual : Str) (scope : Scope) (f : Addr) (cdv : Value) (A : Around) (outer : List Env) (s : Shared) (H : Hp) (E : XK) : Cx := cxOf (L2N.CX P w) P w K mg base N qual scope f cdv A outer s H E
theorem passes_cx : PassesOwn (model (cxN P w K mg base N qual scope f cdv A outer s H E).prog (cxN P w K mg base N qual scope f cdv A outer s H E).w) (cxN P w K mg base N qual scope f cdv A outer s H E).A (cxN P w K mg base N qual scope f cdv A outer s H E).env (cxN P w K mg base N qual scope f cdv A outer s H E).xe := passes_of rfl
theorem takes_cx : L2N.Takes (cxN P w K mg base N qual scope f cdv A outer s H E) (fun cls d _ H => E cls d H) := L2N.takes_of rfl rfl rfl rfl
theorem units_cx {k : Nat} (hr : Room k (A.deeper (PyProof.Rows.envOfC qual scope s.heap.objs.size f cdv))) : (cxN P w K mg base N qual scope f cdv A outer s H E).A.units + 64 < cLine := hr.units
end

/-! ### isinstance of a built-in type -/
def kindOf : D → Option String
  | .non => some "NoneType"
  | .bl _ => some "bool"
  | .int _ => some "int"
  | .str _ => some "str"
  | .lst _ => some "list"
  | .tup _ => some "tuple"
  | _ => none
def isKind (k T : String) : Bool := k == T || (k == "bool" && T == "int")
def tyNames : List String := ["int", "bool", "list", "tuple", "str"]
def gIsi (T : String) (d : D) : Option D := match kindOf d with
  | some k => if T ∈ tyNames then some (.bl (isKind k T)) else none
  | none => none
theorem kit_kind {K : PySem.W.Frag} {k T : String} (hk : k ∈ ["NoneType", "bool", "int", "str", "list", "tuple"]) (hT : T ∈ tyNames) : PySem.W.kitOne K (.type k) (.type T) = some (isKind k T) := by
  unfold tyNames at hT
  simp only [List.mem_cons, List.not_mem_nil, or_false] at hk hT
  rcases hk with rfl | rfl | rfl | rfl | rfl | rfl <;> rcases hT with rfl | rfl | rfl | rfl | rfl <;> exact kit_ty (by decide +kernel)
theorem kind_ty {K : PySem.W.Frag} {H : Hp} {d : D} {v : V} {k : String} (r : Rep K H d v) (h : kindOf d = some k) : k ∈ ["NoneType", "bool", "int", "str", "list", "tuple"] ∧ TyX K H v (.type k) := by
  cases d <;> first | (cases h; done) | skip
  all_goals
    cases h
    rw [Rep] at r
    refine ⟨by decide, ?_⟩
    first
      | (subst r; exact .base .non)
      | (subst r; exact .base (.bl _))
      | (subst r; exact .base (.int _))
      | (subst r; exact .base (.str _))
      | (obtain ⟨a, xs, rfl, ha, _⟩ := r; exact .base (.lst ha))
      | (obtain ⟨a, xs, rfl, ha, _⟩ := r; exact .base (.tup ha))
def gNeg : D → Option D
  | .int i => some (.int (-i))
  | _ => none
section
variable {X : Cx} {W : WX} {e a b c : Expr} {es : List Expr} {pos p q : Pos} {f f1 f2 f3 : EB} {g1 : EA}
theorem b_isi (T : String) {x : Str} (hg : Gl X "isinstance") (hm : X.mg "isinstance" = none) (hg2 : Gl X x) (hm2 : X.mg x = none) (hv : bootBuiltins x = some (.type T)) (ha : PE X e (tB X.K W f)) (hn : x ≠ "__name__" := by decide) (hdb : (x == ("__debug__" : Str)) = false := by decide)
    (he : starEach [e, .Name x q] X.env = (false, eval e X.env) :: starEach [.Name x q] X.env := by rfl) (he2 : starEach [.Name x q] X.env = (false, eval (.Name x q) X.env) :: starEach [] X.env := by rfl) (hpl : (backTo pos (starEach [.Name x q] X.env)).any (·.1) = false := by rfl) :
    PE X (.Call (.Name "isinstance" p) [e, .Name x q] [] pos) (tB X.K W (eUn (gIsi T) f)) := by
  have pT : PE X (.Name x q) (tC (.ty T)) := pe_bltn (v := .ty T) hg2 hm2 hv rfl hn hdb
  refine pe_w (pe_callB call_isi hg hm (by decide +kernel) (pa_cons ha (pa_cons pT pa_nil he2) he) (by decide) (by decide) he hpl) fun σ H Q hq => ?_
  obtain ⟨B, ss, fps, pi, k⟩ := hq
  refine ⟨B, ss, fps, pi, ?_⟩
  unfold eUn at k
  cases h : f ss with
  | ok r =>
    obtain ⟨n, d⟩ := r
    simp only [h] at k
    intro B1 v H1 s1 bw
    cases hh : gIsi T d with
    | none => simp only [hh] at k
    | some d2 =>
      simp only [hh] at k
      unfold gIsi at hh
      cases hk : kindOf d with
      | none => simp only [hk] at hh; cases hh
      | some kd =>
        simp only [hk] at hh
        by_cases hT : T ∈ tyNames
        · rw [if_pos hT] at hh
          cases hh
          obtain ⟨h1, h2⟩ := kind_ty (bw.here s1.bh) hk
          exact ⟨v, .ty T, .type kd, .type T, _, rfl, .ty T, h2, kit_kind h1 hT, k B1 _ H1 s1 (bw0 rep_bl)⟩
        · rw [if_neg hT] at hh; cases hh
  | exc e => simp only [h] at k; exact k
  | no => simp only [h] at k
theorem b_neg (ha : PE X a (tB X.K W f)) : PE X (.UnaryOp .USub a pos) (tB X.K W (eUn gNeg f)) := by
  refine b_un un_neg (fun H da d x Q r e k => ?_) ha
  cases da <;> first | (cases e; done) | skip
  rename_i i
  rw [Rep] at r
  cases e
  exact ⟨i, r, k _ fun _ => rep_int⟩
end

/-! ### chains a < b < c -/
def eChn (g g' : D → D → Option D) (f1 f2 f3 : EB) : EB := fun ss => match f1 ss with
  | .ok (_, a) => (match f2 ss with
    | .ok (_, b) => (match g a b with
      | some (.bl true) => (match f3 ss with
        | .ok (_, c) => (match g' b c with
          | some d => .ok (0, d)
          | none => .no)
        | .exc e => .exc e
        | .no => .no)
      | some (.bl false) => .ok (0, .bl false)
      | _ => .no)
    | .exc e => .exc e
    | .no => .no)
  | .exc e => .exc e
  | .no => .no
section
variable {X : Cx} {W : WX} {e a b c : Expr} {es : List Expr} {pos p q : Pos} {f f1 f2 f3 : EB} {g1 : EA}
theorem chn_of {r r' : R2} {g g' : D → D → Option D} (hg : OpOk X.K r g) (hg' : OpOk X.K r' g') (σ : L2.St) (H : Hp) (Q : VK) (hq : tB X.K W (eChn g g' f1 f2 f3) σ H Q) : tChain r r' (tB X.K W f1) (tB X.K W f2) (tB X.K W f3) σ H Q := by
  refine tB_cut hq fun B ss fps pi k => ?_
  unfold eChn at k
  cases h1 : f1 ss with
  | exc e => simp only [h1] at k; exact k
  | no => simp only [h1] at k
  | ok r1 =>
    obtain ⟨n1, d1⟩ := r1
    simp only [h1] at k
    intro B1 x H1 s1 bx
    refine ⟨B1, ss, fps, pi.step s1, ?_⟩
    cases h2 : f2 ss with
    | exc e => simp only [h2] at k; exact fun B' cls dd H' s ex => k B' cls dd H' (s1.trans s) ex
    | no => simp only [h2] at k
    | ok r2 =>
      obtain ⟨n2, d2⟩ := r2
      simp only [h2] at k
      intro B2 y H2 s2 bY
      cases hh : g d1 d2 with
      | none => simp only [hh] at k
      | some d =>
        simp only [hh] at k
        refine hg H2 d1 d2 d x y _ ((bx.le s2.bb s2.hh).here s2.bh) (bY.here s2.bh) hh fun v rv => ?_
        cases d <;> first | exact k.elim | skip
        rename_i t
        have ev := rv B2
        rw [Rep] at ev
        refine ⟨t, ev, ?_⟩
        cases t with
        | false => rw [if_neg Bool.false_ne_true]; exact k B2 _ H2 (s1.trans s2) (bw0 rep_bl)
        | true =>
          rw [if_pos rfl]
          refine ⟨B2, ss, fps, (pi.step s1).step s2, ?_⟩
          cases h3 : f3 ss with
          | exc e => simp only [h3] at k; exact fun B' cls dd H' s ex => k B' cls dd H' ((s1.trans s2).trans s) ex
          | no => simp only [h3] at k
          | ok r3 =>
            obtain ⟨n3, d3⟩ := r3
            simp only [h3] at k
            intro B3 z H3 s3 bz
            cases h4 : g' d2 d3 with
            | none => simp only [h4] at k
            | some d4 =>
              simp only [h4] at k
              exact hg' H3 d2 d3 d4 y z Q ((bY.le s3.bb s3.hh).here s3.bh) (bz.here s3.bh) h4 fun v rv => k B3 v H3 ((s1.trans s2).trans s3) (bw0 (rv B3))
theorem b_chn {op op' : CmpOp} {r r' : R2} {g g' : D → D → Option D} (ho : OpR X (compareOp op) r) (hg : OpOk X.K r g) (ho' : OpR X (compareOp op') r') (hg' : OpOk X.K r' g') (ha : PE X a (tB X.K W f1)) (hb : PE X b (tB X.K W f2)) (hc : PE X c (tB X.K W f3))
    (hm : lastMarks [op, op'] [b, c] = false := by with_unfolding_all rfl) : PE X (.Compare a [op, op'] [b, c] pos) (tB X.K W (eChn g g' f1 f2 f3)) :=
  pe_w (pe_chain ho ho' ha hb hc hm) fun σ H Q hq => chn_of hg hg' σ H Q hq
theorem t_chn {op op' : CmpOp} {r r' : R2} {g g' : D → D → Option D} (ho : OpR X (compareOp op) r) (hg : OpOk X.K r g) (ho' : OpR X (compareOp op') r') (hg' : OpOk X.K r' g') (ha : PE X a (tB X.K W f1)) (hb : PE X b (tB X.K W f2)) (hc : PE X c (tB X.K W f3))
    (hm : lastMarks [op, op'] [b, c] = false := by with_unfolding_all rfl) : PT X (.Compare a [op, op'] [b, c] pos) (tT X.K W (eTest (eChn g g' f1 f2 f3))) :=
  pt_w (pt_chain ho ho' ha hb hc hm) fun σ H Q hq => chn_of hg hg' σ H _ (test_of hq)
end
end Mv

namespace Mv
open PySem L2
open Classical

/-! ### raise X() -/
def sRaise (e : Exo) : SM := fun ss => .exc e ss
section
variable {X : Cx} {W : WX} {C : Addr} {bmB : List Value} {B newId initId : String} {x : Str} {p pos pos' : Pos}
theorem pmk_own0 (F : ExcBaseFacts B newId initId bmB) (q : PySem.W.excIn X.K C bmB newId = true) (gC : X.mg x = some (.ref C)) (kC : PySem.W.keepIn X.K (.ref C) = true) (r : Raises X (.ref C)) (hg : Gl X x)
    (hdb : (x == ("__debug__" : Str)) = false := by decide) : L2N.PMk X (.Call (.Name x p) [] [] pos) (fun _ H Q => Q (.ref C) none H) := by
  intro ps2 st σ H Q it h
  refine wpAny_Call_Name_kw (ld_glob it hg gC ?_ hdb)
  refine PySem.W.callWith_K0 it.kIn kC ?_
  show wpAny _ _ (call (.ref C) []) _ _ _
  obtain ⟨bm, N, nm, qn, bs, hdct, sn, sub, ab, col, dd, k0, k1, k2, k3, k5, mN, hC, hN, hni, T⟩ := exc_obj it.kIn q
  refine wpAny_call_exc_subT F T hC hN hni (fun h' e hm => ?_) (Nat.zero_le _)
  exact L2N.mk_of it hm r h (it.hok.gone hm.new)
theorem s_raise0 (hc : X.calm = true) (tk : L2N.Takes X W) (F : ExcBaseFacts B newId initId bmB) (q : PySem.W.excIn X.K C bmB newId = true) (gC : X.mg x = some (.ref C)) (kC : PySem.W.keepIn X.K (.ref C) = true) (h1 : PySem.W.subIn X.K (.ref C) (.type "BaseException") = some true) (h2 : PySem.W.typeIn X.K (.ref C) = some (.type "type")) (hg : Gl X x)
    (hdb : (x == ("__debug__" : Str)) = false := by decide) : PS X (.Raise (some (.Call (.Name x p) [] [] pos)) none pos') (tS X.K W (sRaise ⟨C, none⟩)) := by
  refine ps_w (L2N.ps_raise hc tk (pmk_own0 F q gC kC (raises_own h1 h2) hg hdb)) fun D σ H hq => ?_
  obtain ⟨B0, H0, B, ss, fps, si, k⟩ := hq
  exact k B σ H fps (.ref C) none si ⟨rfl, rfl⟩
end

/-! ### slots -/
section
variable {K : PySem.W.Frag} {B0 H0 B B' H H' : Hp} {σ : St} {ss : En} {fps : List (List Addr)}
theorem SI.put (h : SI K B0 H0 B σ H ss fps) (i : Nat) {s : Sl} {o : Option V} (r : slotOk K B H s o []) : SI K B0 H0 B (σ.set i o) H (ss.set i s) (fps.set i []) := by
  refine ⟨⟨h.pi.bh, h.pi.al.set r i, nodup_set h.pi.nd List.nodup_nil i (fun _ _ => True.intro) fun a ha => (nomatch ha), fun a ha => ?_⟩, h.st, fun a ha => ?_⟩
  · rcases mem_set_fl ha with z | z
    · exact h.pi.fr a z
    · cases z
  · rcases mem_set_fl ha with z | z
    · exact h.fr a z
    · cases z
end

section
variable {K : PySem.W.Frag} {B0 H0 B H : Hp} {σ : St} {ss : En} {fps : List (List Addr)}
theorem Le.into (h : Le B H) {d : Addr} {o : HO} (hd : H d = some o) : Le B (upd B d o) := fun a u e => by
  by_cases ha : a = d
  · subst ha; rw [h _ _ e] at hd; cases hd; rw [upd_same]
  · rw [upd_ne ha]; exact e
/-- a tracked cell that is no list becomes part of the base -/
theorem Stp.grow (h : Le B H) {d : Addr} {gs : List (Str × V)} (hd : H d = some (.xd gs)) : Stp B H (upd B d (.xd gs)) H :=
  ⟨h.into hd, Le.refl _, fun a u e => by
    by_cases ha : a = d
    · subst ha; rw [upd_same] at e; cases e; exact hd
    · rw [upd_ne ha] at e; exact h a u e, fun a z1 z2 => by
    obtain ⟨xs, z2⟩ := z2
    have ha : a ≠ d := fun z => by rw [z, hd] at z2; cases z2
    rw [upd_ne ha]; exact z1⟩
theorem SI.grow (h : SI K B0 H0 B σ H ss fps) {d : Addr} {gs : List (Str × V)} (hd : H d = some (.xd gs)) : SI K B0 H0 (upd B d (.xd gs)) σ H ss fps := h.step (Stp.grow h.pi.bh hd)
end
/-! ### try: .. except X as n: -/
/-- the suite's outcome, whatever the address -/
def unS (i : Nat) : SO → SO
  | .nx ss => .nx (ss.set i .un)
  | .bk ss => .bk (ss.set i .un)
  | .ct ss => .ct (ss.set i .un)
  | .rt n d => .rt n d
  | .ru d ss => .ru d ss
  | .exc _ _ => .no
  | .no => .no
/-- where the exception at hand lies, and its dict -/
abbrev Ha := Addr × Addr
/-- the exception at hand, as a value -/
def exv (a : Ha) (e : Exo) : D := match e.fs with
  | none => .exo a.1
  | some fs => .exd a.1 a.2 fs
noncomputable def sTry (K : PySem.W.Frag) (c : Value) (i : Nat) (Fb : SM) (Fs : Ha → Exo → SM) : SM := fun ss => match Fb ss with
  | .exc e ss' => (match PySem.W.exmOne K (.ref e.C) c with
    | some true => if h : ∃ r, ∀ a, unS i (Fs a e (ss'.set i (.v 0 (exv a e)))) = r then h.choose else .no
    | some false => .exc e ss'
    | none => .no)
  | o => o
theorem sTry_exc {K : PySem.W.Frag} {c : Value} {i : Nat} {Fb : SM} {Fs : Ha → Exo → SM} {ss ss' : En} {e : Exo} {r : SO} (h1 : Fb ss = .exc e ss') (h2 : PySem.W.exmOne K (.ref e.C) c = some true) (h3 : ∀ a, unS i (Fs a e (ss'.set i (.v 0 (exv a e)))) = r) :
    sTry K c i Fb Fs ss = r := by
  unfold sTry
  rw [h1]
  simp only [h2]
  have h : ∃ r, ∀ a, unS i (Fs a e (ss'.set i (.v 0 (exv a e)))) = r := ⟨r, h3⟩
  rw [dif_pos h]
  rw [← h.choose_spec (0, 0), h3 (0, 0)]
/-- what the object at hand is -/
structure HotO (oe : Obj) (e : Exo) (b : Addr) : Prop where
  cls : oe.cls = .ref e.C
  dct : oe.dict = e.fs.map fun _ => b
/-- the context holds the exception e, at a -/
structure HotE (X : Cx) (a : Ha) (e : Exo) : Prop where
  pin : ∃ oe, (a.1, oe) ∈ X.pn ∧ L2H.Hot1 X.A (a.1, oe) ∧ HotO oe e a.2
def tsX (K : PySem.W.Frag) (Fs : Ha → Exo → SM) : Addr → Value → Option Addr → TS := fun a cls d D σ H => ∃ (e : Exo) (b : Addr), cls = .ref e.C ∧ (d = e.fs.map fun _ => b) ∧ tS K (fun _ _ _ _ => False) (Fs (a, b) e) D σ H
section
variable {X : Cx} {x n : Str} {c : Value} {i : Nat} {body suite : List Stmt} {b₀ : Stmt} {np pos pos' : Pos} {W : WX} {Fb : SM} {Fs : Ha → Exo → SM}
theorem hot_suite {a b : Addr} {oe : Obj} {cls : Value} {d : Option Addr} {pn : List (Addr × Obj)} {e : Exo} (hz : L2N.Zn cls d oe) (hf : ∃ vs, oe.data = .fields vs) (hc : cls = .ref e.C) (hd : d = e.fs.map fun _ => b) : HotE (X.suite a ((a, oe) :: pn)) (a, b) e := by
  obtain ⟨vs, hv⟩ := hf
  refine ⟨oe, List.mem_cons_self, ⟨rfl, vs, hv, hz.2.2 vs hv⟩, ⟨by rw [hz.1, hc], by rw [hz.2.1]; exact hd⟩⟩
theorem s_try (hs : X.stack = X.env :: X.outer) (hf : X.env.frame = some X.env.locals) (hN : X.N.Nodup) (hi : X.N[i]? = some n) (hln : X.env.kindOf n = some .local) (hc : Names X x c) (tk : L2N.Takes X W)
    (hb : ∀ (W : WX) (pn : List (Addr × Obj)) (xe : Value → Shared → Prop), L2N.Takes (X.tr pn xe) W → PassesOwn (model X.prog X.w) X.A X.env xe → PSs (X.tr pn xe) body (tS X.K W Fb))
    (hsu : ∀ (a : Ha) (pn : List (Addr × Obj)) (e : Exo), HotE (X.suite a.1 pn) a e → PSs (X.suite a.1 pn) (b₀ :: suite) (tS X.K (fun _ _ _ _ => False) (Fs a e))) :
    PS X (.Try body [.ExceptHandler (some (.Name x np)) (some n) (b₀ :: suite) pos'] [] [] pos) (tS X.K W (sTry X.K c i Fb Fs)) := by
  refine ps_w (L2N.ps_try_as (ts := tsX X.K Fs) (tb := fun W => tS X.K W Fb) hs hf hN hi hln hc tk hb fun a oe cls d pn hz hfl => ⟨fun pins s σ H D I q => ?_⟩) fun D σ H hq => ?_
  · obtain ⟨e, b, h1, h2, h3⟩ := q
    exact (hsu (a, b) _ e (hot_suite hz hfl h1 h2)).run pins s σ H D I h3
  · obtain ⟨B0, H0, B, ss, fps, si, k⟩ := hq
    refine ⟨B0, H0, B, ss, fps, si, ?_⟩
    unfold sTry at k
    cases hF : Fb ss with
    | nx ss' => simp only [hF] at k; exact k
    | rt n d => simp only [hF] at k; exact k
    | ru d ss' => simp only [hF] at k; exact k
    | bk ss' => simp only [hF] at k; exact k
    | ct ss' => simp only [hF] at k; exact k
    | no => simp only [hF] at k
    | exc e ss' =>
      simp only [hF] at k
      intro B1 σ1 H1 fps1 cls dd si1 ex
      obtain ⟨ec, ed⟩ := id ex
      subst ec
      cases hm : PySem.W.exmOne X.K (.ref e.C) c with
      | none => simp only [hm] at k
      | some b =>
        refine ⟨b, hm, fun hb1 a ha => ?_, fun hb1 => ?_⟩
        · subst hb1
          simp only [hm] at k
          by_cases h : ∃ r, ∀ a, unS i (Fs a e (ss'.set i (.v 0 (exv a e)))) = r
          · rw [dif_pos h] at k
            obtain ⟨b, B2, e1, e2, e3⟩ : ∃ (b : Addr) (B2 : Hp), dd = (e.fs.map fun _ => b) ∧ SI X.K B0 H0 B2 σ1 H1 ss' fps1 ∧ Rep X.K B2 (exv (a, b) e) (.ref a) := by
              unfold exv
              cases hfs : e.fs with
              | none =>
                rw [hfs] at ed
                exact ⟨0, B1, ed, si1, by rw [Rep]⟩
              | some fs =>
                rw [hfs] at ed
                obtain ⟨d, gs, h1, h2, h3⟩ := ed
                exact ⟨d, _, h1, si1.grow h2, by rw [Rep]; exact ⟨rfl, gs, upd_same, RepF.mono (si1.pi.bh.into h2) _ _ h3⟩⟩
            have hr := h.choose_spec (a, b)
            refine ⟨e, b, rfl, e1, B0, H0, B2, ss'.set i (.v 0 (exv (a, b) e)), fps1.set i [], e2.put i (s := .v 0 (exv (a, b) e)) (o := some (.ref a)) ⟨_, rfl, rfl, e3⟩, ?_⟩
            rw [← hr] at k
            cases hS : Fs (a, b) e (ss'.set i (.v 0 (exv (a, b) e))) with
            | nx s2 => rw [hS] at k; exact fun B' σ' H' fps' si' => k B' (σ'.set i none) H' (fps'.set i []) (si'.put i (s := .un) (o := none) rfl)
            | bk s2 => rw [hS] at k; exact fun B' σ' H' fps' si' => k B' (σ'.set i none) H' (fps'.set i []) (si'.put i (s := .un) (o := none) rfl)
            | ct s2 => rw [hS] at k; exact fun B' σ' H' fps' si' => k B' (σ'.set i none) H' (fps'.set i []) (si'.put i (s := .un) (o := none) rfl)
            | rt n d => rw [hS] at k; exact k
            | ru d s2 => rw [hS] at k; exact k
            | exc e2 s2 => rw [hS] at k; exact k.elim
            | no => rw [hS] at k; exact k
          · rw [dif_neg h] at k; exact k.elim
        · subst hb1
          simp only [hm] at k
          exact k B1 σ1 H1 fps1 _ dd si1 ex
end

/-! ### defs called in an except suite -/
structure FnX (P : Program) (w : World) (K : PySem.W.Frag) (mg : Str → Option Value) (base : Heap) (CX : CXT) (k : Nat) (f : Addr) (fd : FuncData) (ps : List Str) (sp : Addr × Obj → Sp) : Prop where
  len : ∀ p vs H Q E, sp p vs H Q E → vs.length = ps.length
  run : ∀ (A : Around) (outer : List Env) (s : Shared) (H : Hp) (args : Args) (us : List Value) (vs : List V) (Q : VK) (E : XK) (p : Addr × Obj), L2H.RoomH k A → L2H.Hot1 A p → L2H.PinOk outer H s p → Env0 P w K mg base A outer s H → BindsTo s fd args (ps.zip us) → Vals vs us → sp p vs H Q E →
    codeAny (model P w) A (PySem.Code.call (.ref f) args) (CR CX outer P w H s Q E) s
theorem fn_ofX {CX : CXT} {P : Program} {w : World} {K : PySem.W.Frag} {mg : Str → Option Value} {base : Heap} {k : Nat} {f : Addr} {name qual : Str} {params : Arguments} {body : List Stmt} {scope : Scope} {dV kV doc pm cdv ct oc : Value} {an od : Option Addr}
    {osl : Array (Option Value)} {N ps : List Str} {sp : Addr × Obj → Sp} (lk : K.lookup f = some ⟨oc, od, .func (PySem.W.fnOf name qual params body scope dV kV doc pm an cdv ct), osl⟩) (hcd : PySem.W.codeIn K cdv qual = true) (S : FnScope N ps scope)
    (len : ∀ p vs H Q E, sp p vs H Q E → vs.length = ps.length)
    (hbody : ∀ (A : Around) (outer : List Env) (s : Shared) (H : Hp) (vs : List V) (Q : VK) (E : XK) (p : Addr × Obj), L2H.Hot1 A p → L2H.RoomH k (A.deeper (PyProof.Rows.envOfC qual scope s.heap.objs.size f cdv)) → sp p vs H Q E →
      ∃ t, PSs (L2H.cxH CX P w K mg base N qual scope f cdv A outer s H E p) body t ∧ t { nx := fun _ H' => Q .non H', rt := Q } (L2.start N vs) H) :
    FnX P w K mg base CX (k + 1) f (PySem.W.fnOf name qual params body scope dV kV doc pm an cdv ct) ps sp := by
  constructor
  · exact len
  intro A outer s H args us vs Q E p room hot pinned e0 bound r want
  have keep := fun b o e => (e0.bs b o e).1
  have inK : K.In s.heap := e0.mod.kin.keeps keep
  have kinds : ∀ y ∈ ps.zip us, scope.names.lookup y.1 = some .local ∨ (scope.names.lookup y.1 = some .cell ∧ ((cellsFrom (s.heap.objs.size + 1) scope.names []).lookup y.1).isSome = true) := by
    rintro ⟨n, u⟩ at_
    have par := S.par n (List.of_mem_zip at_).1
    exact par.imp id fun c => ⟨c, PySem.W.cellsFrom_some _ _ _ (.inl c)⟩
  refine codeAny_call_function room.depth (inK _ _ lk) rfl S.co S.gen rfl (PySem.W.codeRec_of inK hcd) (bound _ _ _ _ (wpAny_newFunctionEnv_cells S.kind kinds ?_))
  rintro env rfl s1 made
  refine ⟨(e0.mod.nolimit.keeps keep).keeps made.toInCall.keep, codeAny_func ?_⟩
  obtain ⟨t, run, q⟩ := hbody A outer s H vs Q E p hot (room.deeper _) want
  have it : Inv (L2H.cxH CX P w K mg base N qual scope f cdv A outer s H E p) [] (L2.start N vs) H s1 := L2H.inv_startH S pinned e0 (len _ _ _ _ _ want) r made
  refine wpAny_mono (run.run [] s1 _ H _ it q) ?_ fun _ _ z => z
  have answer : ∀ {σ2 : L2.St} {H2 : Hp} {v : V} {u : Value} {s2 : Shared}, Inv (L2H.cxH CX P w K mg base N qual scope f cdv A outer s H E p) [] σ2 H2 s2 → RelV v u → Q v H2 → CE outer P w H s Q u s2 :=
    fun {_ H2 v _ _} it2 rv q2 => ⟨v, H2, it2.os, it2.bare, it2.base, it2.hok, rv, q2⟩
  rintro (_ | _ | _ | u) s2 end_
  · obtain ⟨σ2, H2, it2, q2⟩ := end_
    exact answer it2 (v := V.non) rfl q2
  · exact end_.elim fun _ z => z.elim fun _ z => z.2.elim
  · exact end_.elim fun _ z => z.elim fun _ z => z.2.elim
  · obtain ⟨v, σ2, H2, it2, rv, q2⟩ := end_
    exact answer it2 rv q2
section
variable {X : Cx} {CX : CXT} {k : Nat} {f C : Addr} {fd : FuncData} {ps : List Str} {sp : Addr × Obj → Sp} {E : L2.St → XK} {x m : Str} {q pos apos : Pos} {e o : Expr} {es : List Expr} {ta : TE} {t : TA} {p : Addr × Obj}
theorem run_fnX {ps2 : List (Addr × Obj)} {σ : L2.St} {H : Hp} {s : Shared} {Q : VK} {us : List Value} {vs : List V} (F : FnX X.prog X.w X.K X.mg X.base CX k f fd ps sp) (room : L2H.RoomH k X.A) (hot : L2H.Hot1 X.A p) (at_ : p ∈ X.pn) (hb : Binds X.K fd ps []) (out : PassesAt CX X σ (E σ))
    (it : Inv X ps2 σ H s) (r : Vals vs us) (want : sp p vs H Q (E σ)) : wpAny (model X.prog X.w) X.A (call (.ref f) us) (L2.EP X ps2 σ Q) X.xe s := by
  have cnt : (us ++ []).length = ps.length := by rw [List.append_nil, ← r.length]; exact F.len _ _ _ _ _ want
  have bound := hb s us it.kIn cnt
  rw [List.append_nil] at bound
  obtain ⟨there, free, nL, nF, noCell⟩ := it.pin p (List.mem_append_left _ at_)
  have pinned : L2H.PinOk X.stack H s p := ⟨there, free, fun z => (List.mem_cons.mp (it.stkSub p.1 z)).elim nL nF, noCell⟩
  apply wpAny_call
  refine codeAny_mono (F.run X.A X.stack s H _ us vs Q (E σ) p room hot pinned it.env0 bound r want) ?_
  rintro (er | fl) s2 end_
  · exact out ps2 H s er s2 it end_
  · cases fl with
    | ret u => exact it.after end_
    | _ => exact False.elim end_
theorem pe_callX (F : FnX X.prog X.w X.K X.mg X.base CX k f fd ps sp) (room : L2H.RoomH k X.A) (hot : L2H.Hot1 X.A p) (at_ : p ∈ X.pn) (hg : Gl X x) (hm : X.mg x = some (.ref f)) (hk : PySem.W.keepIn X.K (.ref f) = true) (hb : Binds X.K fd ps []) (out : ∀ σ, PassesAt CX X σ (E σ))
    (ha : PA X (e :: es) t) (hdb : (x == ("__debug__" : Str)) = false := by decide)
    (he : starEach (e :: es) X.env = (false, eval e X.env) :: starEach es X.env := by rfl)
    (hpl : (backTo pos (starEach es X.env)).any (·.1) = false := by rfl) : PE X (.Call (.Name x q) (e :: es) [] pos) (tCallS (sp p) E t) := by
  constructor
  intro ps2 s σ H Q it want
  apply wpAny_Call_Name_kw
  apply ld_glob it hg hm _ hdb
  have each := ha.run pos ps2 s σ H _ it want
  refine PySem.W.callWith_K (h₀ := X.base) it.ok.mod.kin hk (thn each ?_) he hpl
  rintro us s1 ⟨vs, H1, it1, r, q1⟩
  exact ⟨it1.kIn, run_fnX F room hot at_ hb (out σ) it1 r q1⟩
end
def spX (K : PySem.W.Frag) (m : Ha → Exo → FM) : Addr × Obj → Sp := fun p vs H Q E => ∃ e b, HotO p.2 e b ∧ spM K (m (p.1, b) e) vs H Q E
section
variable {P : Program} {w : World} {K : PySem.W.Frag} {base : Heap} {mg : Str → Option Value}
theorem fn_okX {x qual : Str} {st : Stmt} {f : Addr} {fd : FuncData} {N ps : List Str} {k : Nat} {F : Ha → Exo → SM} (np nn : Nat) (hnp : ps.length = np) (hnn : N.length = nn) (Fn : Fun K x qual st f fd) (S : FnScope N ps (defScope st))
    (hbody : ∀ (cdv : Value) (A : Around) (outer : List Env) (s : Shared) (H : Hp) (E : XK) (p : Addr × Obj) (e : Exo) (b : Addr), L2H.RoomH k (A.deeper (PyProof.Rows.envOfC qual (defScope st) s.heap.objs.size f cdv)) → HotE (L2H.cxH (L2N.CX P w) P w K mg base N qual (defScope st) f cdv A outer s H E p) (p.1, b) e →
      PSs (L2H.cxH (L2N.CX P w) P w K mg base N qual (defScope st) f cdv A outer s H E p) (defBody st) (tS K (fun cls d _ H => E cls d H) (F (p.1, b) e))) :
    FnX P w K mg base (L2N.CX P w) (k + 1) f fd ps (spX K fun a e => fnM np nn (F a e)) := by
  subst hnp hnn
  obtain ⟨oc, od, kV, doc, pm, an, cdv, ct, osl, rfl, lk, hcd⟩ := Fn.ex
  refine fn_ofX lk hcd S (fun p vs H Q E h => ?_) (fun A outer s H vs Q E p hot hr h => ?_)
  · obtain ⟨e, b, _, B, ds, _, rs, k⟩ := h
    unfold fnM at k
    dsimp only at k
    by_cases hl : ds.length = ps.length
    · rw [← rs.length, hl]
    · rw [if_neg hl] at k; exact k.elim
  · obtain ⟨e, b, ho, B, ds, le, rs, k⟩ := h
    refine ⟨_, hbody cdv A outer s H E p e b hr ⟨p.2, List.mem_singleton.mpr rfl, hot, ho⟩, ?_⟩
    unfold fnM at k
    dsimp only at k
    by_cases hl : ds.length = ps.length
    · rw [if_pos hl] at k
      have hv : vs.length = ps.length := by rw [← rs.length, hl]
      have si := SI.start le rs (N.length - ps.length)
      unfold L2.start
      rw [hv]
      refine tS_mk si ?_
      cases hF : F (p.1, b) e (ds.map (Sl.v 0) ++ List.replicate (N.length - ps.length) .un) with
      | nx s' => simp only [hF] at k; exact fun B' σ' H' fps' si' => k B' .non H' [] si'.st ⟨⟨rfl, rep_non⟩, List.nodup_nil, fun a z => nomatch z⟩
      | rt n d => simp only [hF] at k; exact k
      | bk s' => simp only [hF] at k
      | ct s' => simp only [hF] at k
      | exc e s' => simp only [hF] at k; exact fun B' σ' H' fps' cls dd si' ex => k B' cls dd H' si'.st ex
      | ru d s' => simp only [hF] at k; exact fun B' v σ' H' fps' si' r => k B' v H' [] si'.st ⟨⟨rfl, r⟩, List.nodup_nil, fun a z => nomatch z⟩
      | no => simp only [hF] at k
    · rw [if_neg hl] at k; exact k.elim
end
section
variable {X : Cx} {W : WX} {e a b : Expr} {es : List Expr} {pos p : Pos} {g1 : EA} {m : Ha → Exo → FM} {k : Nat} {f : Addr} {fd : FuncData} {ps : List Str} {x : Str}
/-- f(..) in an except suite: a flat answer; the arguments borrowed -/
theorem b_callX {a0 : Ha} {e0 : Exo} (F : FnX X.prog X.w X.K X.mg X.base (L2N.CX X.prog X.w) k f fd ps (spX X.K m)) (tk : L2N.Takes X W) (hh : HotE X a0 e0) (hr : L2H.RoomH k X.A) (hg : Gl X x) (hm : X.mg x = some (.ref f)) (hk : PySem.W.keepIn X.K (.ref f) = true) (hb : Binds X.K fd ps [])
    (ha : PA X (e :: es) (tAh X.K W g1)) (hdb : (x == ("__debug__" : Str)) = false := by decide) (he : starEach (e :: es) X.env = (false, eval e X.env) :: starEach es X.env := by rfl) (hpl : (backTo pos (starEach es X.env)).any (·.1) = false := by rfl) :
    PE X (.Call (.Name x p) (e :: es) [] pos) (tB X.K W (eFnF (m a0 e0) g1)) := by
  obtain ⟨oe, hp, hot, ho⟩ := hh.pin
  refine pe_w (pe_callX F hr hot hp hg hm hk hb (fun σ => L2N.passAt tk σ) ha hdb he hpl) fun σ H Q hq => ?_
  obtain ⟨B, ss, fps, pi, k⟩ := hq
  refine ⟨B, ss, fps, pi, ?_⟩
  unfold eFnF at k
  cases h1 : g1 ss with
  | ok ds =>
    simp only [h1] at k
    intro B1 vs H1 s1 rs
    refine ⟨e0, a0.2, ho, H1, ds, Le.refl _, rs, ?_⟩
    cases h2 : m a0 e0 ds with
    | ok r =>
      obtain ⟨n, d⟩ := r
      simp only [h2] at k
      by_cases hf : flat d = true
      · rw [if_pos hf] at k
        intro B' v H' fp st nw
        have s2 : Stp B1 H1 B1 H' := ⟨Le.refl _, st.hh, s1.bh.trans st.hh, fun _ z _ => z⟩
        exact k B1 v H' (s1.trans s2) (bw0 (nw.ow.bw.flat hf))
      · rw [if_neg hf] at k; exact k.elim
    | exc e =>
      simp only [h2] at k
      by_cases hf : flatX e = true
      · rw [if_pos hf] at k
        intro B' cls dd H' st ex
        have s2 : Stp B1 H1 B1 H' := ⟨Le.refl _, st.hh, s1.bh.trans st.hh, fun _ z _ => z⟩
        exact k B1 cls dd H' (s1.trans s2) (exR_flat hf ex)
      · rw [if_neg hf] at k; exact k.elim
    | no => simp only [h2] at k
  | exc e => simp only [h1] at k; exact k
  | no => simp only [h1] at k
end

/-! ### isinstance(e, ..) of the exception at hand -/
section
variable {X : Cx} {a : Ha} {ex : Exo}
/-- the dict of the exception at hand is tracked -/
def HotD (H : Hp) (a : Ha) (ex : Exo) : Prop := ex.fs.isSome = true → ∃ gs, H a.2 = some (.xd gs)
theorem hot_at (h : HotE X a ex) {pins : List (Addr × Obj)} {σ : L2.St} {H : Hp} {s : Shared} (I : Inv X pins σ H s) (hd : HotD H a ex) : ∃ oe od, PySem.W.InstAt s.heap a.1 oe ex.C od := by
  obtain ⟨oe, pn, ⟨_, vs, hv, _⟩, ho⟩ := h.pin
  obtain ⟨there, _⟩ := I.pin (a.1, oe) (List.mem_append.mpr (.inl pn))
  obtain ⟨cl_, od, oda, sl_⟩ := oe
  have h1 := ho.cls
  have h2 := ho.dct
  dsimp only at h1 h2 hv
  subst h1 h2 hv
  cases hf : ex.fs with
  | none =>
    rw [hf] at there
    exact ⟨_, none, there, rfl, rfl, trivial⟩
  | some fs =>
    rw [hf] at there
    obtain ⟨gs, hx⟩ := hd (by rw [hf]; rfl)
    obtain ⟨mA, hns, _⟩ := (show ObjOk X.prog X.w H s.heap a.2 (.xd gs) from I.hok _ _ hx)
    obtain ⟨od, ho, _⟩ := lookIn_ns hns
    exact ⟨_, some od, there, rfl, rfl, ho⟩
theorem kitx_c {K : PySem.W.Frag} {D x : Addr} {ox : Obj} {od : Option Obj} (C : L2.ExcC K D) : PySem.W.KitX K (.ref x) (.ref D) (fun h => PySem.W.InstAt h x ox D od) :=
  PySem.W.kitx_exc (by obtain ⟨cd, hc, _⟩ := PySem.W.any_some C.hd; rw [hc]; rfl) C.hg C.hk C.hs C.ha C.hn C.ht C.hm
theorem call_isx (h : HotE X a ex) (C : L2.ExcC X.K ex.C) : CallR X (.builtin "isinstance") (fun xs H Q => ∃ (c : V) (cv : Value) (b : Bool), xs = [.ref a.1, c] ∧ HotD H a ex ∧ ClsV c cv ∧ PySem.W.kitOne X.K (.ref ex.C) cv = some b ∧ Q (.bl b) H) := by
  intro ps2 st σ H xs us Q it r want
  obtain ⟨c, cv, b, rfl, hd, hcv, e, q⟩ := want
  obtain ⟨w1, w2, rfl, same1, same2⟩ := vals2 r
  have e2 := hcv.eq same2
  subst e2
  cases (show w1 = Value.ref a.1 from same1)
  obtain ⟨oe, od, J⟩ := hot_at h it hd
  exact PySem.W.kia_one (kitx_c C) it.kIn J e (fun z => nomatch z) fun tk => ⟨.bl b, H, it.kept (t' := tk) fun _ _ z => z, rfl, q⟩
theorem call_isxT (h : HotE X a ex) (C : L2.ExcC X.K ex.C) : CallR X (.builtin "isinstance") (fun xs H Q => ∃ (tp : Addr) (cs : List V) (ws : List Value) (b : Bool), xs = [.ref a.1, .ref tp] ∧ HotD H a ex ∧ H tp = some (.tup cs) ∧ Paired ClsV cs ws ∧ PySem.W.kitAny X.K (.ref ex.C) ws = some b ∧ Q (.bl b) H) := by
  intro ps2 st σ H xs us Q it r want
  obtain ⟨tp, cs, ws, b, rfl, hd, hT, k, e, q⟩ := want
  obtain ⟨w1, w2, rfl, same1, same2⟩ := vals2 r
  cases (show w2 = Value.ref tp from same2)
  cases (show w1 = Value.ref a.1 from same1)
  obtain ⟨oe, od, J⟩ := hot_at h it hd
  obtain ⟨_, its, rv, o, at_, isT, n, dat⟩ := (show ObjOk X.prog X.w H st.heap tp (.tup cs) from it.hok tp _ hT)
  have e3 := ClsV.all k rv
  subst e3
  obtain ⟨oc, od, dt, sl⟩ := o
  simp only at isT dat
  subst isT dat
  exact PySem.W.kia_tup (kitx_c C) it.kIn J at_ e (fun z => nomatch z) fun tk => ⟨.bl b, H, it.tok tk, rfl, q⟩
end
/-- is d the exception at hand? -/
def isHot (a : Ha) (ex : Exo) (d : D) : Bool := match d with
  | .exo a' => decide (a' = a.1) && ex.fs.isNone
  | .exd a' b' _ => decide (a' = a.1) && decide (b' = a.2)
  | _ => false
theorem isHot_rep {K : PySem.W.Frag} {B H : Hp} {a : Ha} {ex : Exo} {d : D} {v : V} (h : isHot a ex d = true) (r : Rep K B d v) (e : Le B H) : v = .ref a.1 ∧ HotD H a ex := by
  cases d <;> first | (cases h; done) | skip
  · rename_i a'
    rw [isHot, Bool.and_eq_true] at h
    rw [Rep] at r
    refine ⟨by rw [r, of_decide_eq_true h.1], fun z => ?_⟩
    have := h.2
    cases hf : ex.fs with
    | none => rw [hf] at z; cases z
    | some fs => rw [hf] at this; cases this
  · rename_i a' b' fs
    rw [isHot, Bool.and_eq_true] at h
    rw [Rep] at r
    obtain ⟨h1, gs, h2, _⟩ := r
    refine ⟨by rw [h1, of_decide_eq_true h.1], fun _ => ⟨gs, ?_⟩⟩
    rw [← of_decide_eq_true h.2]
    exact e _ _ h2
theorem isHot_exv {a : Ha} {e : Exo} : isHot a e (exv a e) = true := by
  unfold exv
  cases h : e.fs with
  | none => simp [isHot, h]
  | some fs => simp [isHot]
noncomputable def eIsx (K : PySem.W.Frag) (a : Ha) (ex : Exo) (ws : List Value) (f : EB) : EB := fun ss => if L2.ExcC K ex.C then (match f ss with
  | .ok (n, d) => if n = 0 ∧ isHot a ex d = true then (match PySem.W.kitAny K (.ref ex.C) ws with
    | some b => .ok (0, .bl b)
    | none => .no) else .no
  | .exc e => .exc e
  | .no => .no) else .no
def tCs : List V → TA
  | [] => tNil
  | v :: vs => tCons (tC v) (tCs vs)
theorem tCs_eq {vs : List V} {σ : L2.St} {H : Hp} {Q : List V → Hp → Prop} (h : Q vs H) : tCs vs σ H Q := by
  induction vs generalizing Q with
  | nil => exact h
  | cons v vs ih => exact ih (Q := fun xs H => Q (v :: xs) H) h
theorem kitAny1 {K : PySem.W.Frag} {t c : Value} {b : Bool} (h : PySem.W.kitAny K t [c] = some b) : PySem.W.kitOne K t c = some b := by
  unfold PySem.W.kitAny at h
  cases hk : PySem.W.kitOne K t c with
  | none =>
    rw [hk] at h; cases h
  | some r =>
    rw [hk] at h
    cases r with
    | true => exact h
    | false => exact h
section
variable {X : Cx} {W : WX} {e : Expr} {es : List Expr} {pos p q : Pos} {f : EB} {a0 : Ha} {ex : Exo}
theorem b_isx1 (hh : HotE X a0 ex) {x : Str} {c : V} {cv : Value} (hg : Gl X "isinstance") (hm : X.mg "isinstance" = none) (hc : ClsV c cv) (hx : PE X (.Name x q) (tC c)) (ha : PE X e (tB X.K W f))
    (he : starEach [e, .Name x q] X.env = (false, eval e X.env) :: starEach [.Name x q] X.env := by rfl) (he2 : starEach [.Name x q] X.env = (false, eval (.Name x q) X.env) :: starEach [] X.env := by rfl) (hpl : (backTo pos (starEach [.Name x q] X.env)).any (·.1) = false := by rfl) :
    PE X (.Call (.Name "isinstance" p) [e, .Name x q] [] pos) (tB X.K W (eIsx X.K a0 ex [cv] f)) := by
  refine (⟨fun pins s σ H Q I hq => ?_⟩)
  obtain ⟨B, ss, fps, pi, k⟩ := hq
  unfold eIsx at k
  by_cases hn : L2.ExcC X.K ex.C
  · rw [if_pos hn] at k
    refine (pe_callB (call_isx hh hn) hg hm (by decide +kernel) (pa_cons ha (pa_cons hx pa_nil he2) he) (by decide) (by decide) he hpl).run pins s σ H Q I ?_
    refine ⟨B, ss, fps, pi, ?_⟩
    cases h : f ss with
    | ok r =>
      obtain ⟨n, d⟩ := r
      simp only [h] at k
      by_cases ha' : n = 0 ∧ isHot a0 ex d = true
      · rw [if_pos ha'] at k
        obtain ⟨rfl, hd⟩ := ha'
        cases hk : PySem.W.kitAny X.K (.ref ex.C) [cv] with
        | none => rw [hk] at k; exact k.elim
        | some b =>
          rw [hk] at k
          intro B1 v H1 s1 bw
          obtain ⟨hv, hD⟩ := isHot_rep hd bw.rep s1.bh
          subst hv
          exact ⟨c, cv, b, rfl, hD, hc, kitAny1 hk, k B1 _ H1 s1 (bw0 rep_bl)⟩
      · rw [if_neg ha'] at k; exact k.elim
    | exc e => simp only [h] at k; exact k
    | no => simp only [h] at k
  · rw [if_neg hn] at k; exact k.elim
theorem b_isxT (hh : HotE X a0 ex) {cs : List V} {ws : List Value} {es : List Expr} {z : Nat} {tpos : Pos} (hg : Gl X "isinstance") (hm : X.mg "isinstance" = none) (hc : Paired ClsV cs ws) (hx : PA X es (tCs cs)) (hl : cs.length ≤ sizeLine) (ha : PE X e (tB X.K W f))
    (he : starEach [e, .Tuple es z tpos] X.env = (false, eval e X.env) :: starEach [.Tuple es z tpos] X.env := by rfl) (he2 : starEach [.Tuple es z tpos] X.env = (false, eval (.Tuple es z tpos) X.env) :: starEach [] X.env := by rfl) (hpl : (backTo pos (starEach [.Tuple es z tpos] X.env)).any (·.1) = false := by rfl) :
    PE X (.Call (.Name "isinstance" p) [e, .Tuple es z tpos] [] pos) (tB X.K W (eIsx X.K a0 ex ws f)) := by
  refine (⟨fun pins s σ H Q I hq => ?_⟩)
  obtain ⟨B, ss, fps, pi, k⟩ := hq
  unfold eIsx at k
  by_cases hn : L2.ExcC X.K ex.C
  · rw [if_pos hn] at k
    refine (pe_callB (call_isxT hh hn) hg hm (by decide +kernel) (pa_cons ha (pa_cons (pe_tup hx) pa_nil he2) he) (by decide) (by decide) he hpl).run pins s σ H Q I ?_
    refine ⟨B, ss, fps, pi, ?_⟩
    cases h : f ss with
    | ok r =>
      obtain ⟨n, d⟩ := r
      simp only [h] at k
      by_cases ha' : n = 0 ∧ isHot a0 ex d = true
      · rw [if_pos ha'] at k
        obtain ⟨rfl, hd⟩ := ha'
        cases hk : PySem.W.kitAny X.K (.ref ex.C) ws with
        | none => rw [hk] at k; exact k.elim
        | some b =>
          rw [hk] at k
          intro B1 v H1 s1 bw
          obtain ⟨hv, hD⟩ := isHot_rep hd bw.rep s1.bh
          subst hv
          refine tCs_eq (Q := fun xs H2 => xs.length ≤ sizeLine ∧ ∀ p, H2 p = none → _) ⟨hl, fun tp ht => ?_⟩
          have s2 : Stp B1 H1 B1 (upd H1 tp (.tup cs)) := ⟨Le.refl _, Le.new ht, s1.bh.trans (Le.new ht), fun _ z _ => z⟩
          exact ⟨tp, cs, ws, b, rfl, fun q => (hD q).imp fun gs z => Le.new ht _ _ z, upd_same, hc, hk, k B1 _ _ (s1.trans s2) (bw0 rep_bl)⟩
      · rw [if_neg ha'] at k; exact k.elim
    | exc e => simp only [h] at k; exact k
    | no => simp only [h] at k
  · rw [if_neg hn] at k; exact k.elim
end
theorem room_sx {k : Nat} {A : Around} {v : Option Value} (r : Room k A) : L2H.RoomH k (A.mark v) := ⟨r.dp, r.un⟩
theorem units_h {P : Program} {w : World} {K : PySem.W.Frag} {mg : Str → Option Value} {base : Heap} {N : List Str} {qual : Str} {scope : Scope} {f : Addr} {cdv : Value} {A : Around} {outer : List Env} {s : Shared} {H : Hp} {E : XK} {p : Addr × Obj} {k : Nat} (hr : L2H.RoomH k (A.deeper (PyProof.Rows.envOfC qual scope s.heap.objs.size f cdv))) : (L2H.cxH (L2N.CX P w) P w K mg base N qual scope f cdv A outer s H E p).A.units + 64 < cLine := by
  have := hr.un
  show (A.deeper _).units + 64 < cLine
  omega
end Mv

namespace Mv
open PySem L2

/-! ### the law's end -/
/-- what a law says: at a script it answers True -/
def spLaw (K : PySem.W.Frag) : Sp := fun vs H Q _ => ∃ (a : Addr) (ns : List Int), vs = [.ref a] ∧ SqL K H a (ns.map V.int) ∧ ns.length ≤ 63 ∧ (∀ z ∈ ns, Builtin.Int.intBits z ≤ 1048576) ∧ ∀ H', Q (.bl true) H'
theorem rp_int_list {K : PySem.W.Frag} {B : Hp} : ∀ ns : List Int, Reps K B (ns.map D.int) (ns.map V.int)
  | [] => reps_nil
  | n :: ns => reps_cons (by rw [Rep]) (rp_int_list ns)
theorem law_ok {P : Program} {w : World} {K : PySem.W.Frag} {mg : Str → Option Value} {base : Heap} {k : Nat} {f : Addr} {fd : FuncData} {x : Str} {m : FM} (F : FnOk P w K mg base (L2N.CX P w) k f fd [x] (spM K m))
    (h : ∀ ns : List Int, ns.length ≤ 63 → (∀ z ∈ ns, Builtin.Int.intBits z ≤ 1048576) → m [.rdl (ns.map D.int)] = .ok (0, .bl true)) : FnOk P w K mg base (L2N.CX P w) k f fd [x] (spLaw K) := by
  have imp : ∀ vs H Q E, spLaw K vs H Q E → spM K m vs H Q E := fun vs H Q E q => by
    obtain ⟨a, ns, rfl, hs, hl, hb, q⟩ := q
    refine ⟨H, [.rdl (ns.map D.int)], Le.refl _, reps_cons (by rw [Rep]; exact ⟨a, _, rfl, hs, rp_int_list ns⟩) reps_nil, ?_⟩
    rw [h ns hl hb]
    intro B' v H' fp st nw
    have hv : Rep K B' (.bl true) v := nw.ow.2
    rw [Rep] at hv
    rw [hv]
    exact q H'
  exact ⟨fun vs H Q E q => F.len vs H Q E (imp _ _ _ _ q), fun A outer s H args us vs Q E hr e0 hb hv q => F.run A outer s H args us vs Q E hr e0 hb hv (imp _ _ _ _ q)⟩
/-- the law's def stands in the written part: what must be shown of it -/
abbrev LawDef (P : Program) (K : Params → PySem.W.Frag) (d : DefRec) (x : Str) (k : Nat) : Prop := ∀ (w : World) (mg : Str → Option Value) (fa : Addr) (h : Heap), (K w.params).In h → h.Ns mainGlobals mg → mg d.name = some (.ref fa) → ∃ fd : FuncData, (∀ (s : Shared) (u : Value), BindsTo s fd ⟨[u], []⟩ [(x, u)]) ∧ ∀ base : Heap, (K w.params).In base → base.Ns mainGlobals mg → FnOk P w (K w.params) mg base (L2N.CX P w) k fa fd [x] (spLaw (K w.params))
theorem law_walk {l : PySem.W.OpenLaw} {k : Nat} {q : Program} {loose : List Str} {XP : (Str → Option Value) → Heap → Prop} {YP : World → Heap → Prop} {d : DefRec} {K : Params → PySem.W.Frag} {x : Str}
    (hn : l.most = some 63) (hdf : d.params.defaults = []) (hr : Room k callerA) (hY : ∀ (w : World) (h : Heap), YP w h → (K w.params).In h)
    (F : LawDef l.prog K d x k) : PySem.W.WalkO q loose XP YP l.row.toRowW d [] (fun f vs => PySem.call f vs) :=
  L2.walk_ofB (n := 63) (CX := fun w => L2N.CX l.prog w) (sp := fun w => spLaw (K w.params)) hn (by decide) hdf hr hY F (fun _ _ a ns hl hb _ hS => ⟨a, ns, rfl, hS, hl, hb, fun _ => rfl⟩)
    fun _ _ _ _ _ z => by obtain ⟨_, _, _, _, _, _, _, _, _, _, _, _, z⟩ := z; exact z

/-! ### classes of exceptions -/
section
variable {K : PySem.W.Frag} {C D : Addr} {T : String} {b : Bool}
theorem kit_cls1 (h1 : PySem.W.isClsIn K D = true) (h2 : PySem.W.typeIn K (.ref D) = some (.type "type")) (h3 : PySem.W.subIn K (.ref C) (.ref D) = some b) : PySem.W.kitCls K (.ref C) (.ref D) = some b := by
  have h1' : (PySem.W.clsIn K D).isSome = true := h1
  have e : ((PySem.W.clsIn K D).isSome && PySem.W.typeIn K (.ref D) == some (.type "type")) = true := by rw [h1', h2] <;> rfl
  show (if ((PySem.W.clsIn K D).isSome && PySem.W.typeIn K (.ref D) == some (.type "type")) = true then PySem.W.subIn K (.ref C) (.ref D) else none) = some b
  rw [if_pos e]; exact h3
theorem kit_own (h0 : (Value.ref C == Value.ref D) = false) (h1 : PySem.W.isClsIn K D = true) (h2 : PySem.W.typeIn K (.ref D) = some (.type "type")) (h3 : PySem.W.subIn K (.ref C) (.ref D) = some b) : PySem.W.kitOne K (.ref C) (.ref D) = some b := by
  unfold PySem.W.kitOne
  rw [h0]
  exact kit_cls1 h1 h2 h3
theorem kit_self : PySem.W.kitOne K (.ref C) (.ref C) = some true := by
  unfold PySem.W.kitOne
  rw [(if_pos (beq_self_eq_true _))]
theorem kit_bt (h1 : PySem.W.kitMeta T = true) (h3 : PySem.W.subIn K (.ref C) (.type T) = some b) : PySem.W.kitOne K (.ref C) (.type T) = some b := by
  unfold PySem.W.kitOne
  rw [show (Value.ref C == Value.type T) = false from rfl]
  show (if PySem.W.kitMeta T = true then PySem.W.subIn K (.ref C) (.type T) else none) = some b
  rw [if_pos h1]; exact h3
theorem exm_own (h0 : PySem.W.subIn K (.ref D) (.type "BaseException") = some true) (h1 : PySem.W.isClsIn K D = true) (h2 : PySem.W.typeIn K (.ref D) = some (.type "type")) (h3 : PySem.W.subIn K (.ref C) (.ref D) = some b) : PySem.W.exmOne K (.ref C) (.ref D) = some b := by
  unfold PySem.W.exmOne
  rw [if_pos (by rw [h0] <;> rfl)]
  exact kit_cls1 h1 h2 h3
end
end Mv

/-! What mirrors compute: lemmas in plain Lean. -/
namespace Mv
open PySem L2

theorem gEq_int (a b : Int) : gEq (.int a) (.int b) = some (.bl (decide (a = b))) := by
  rw [gEq_pl rfl rfl]
  congr 2
  by_cases h : a = b
  · subst h; simp
  · simp [h]
theorem gNe_int (a b : Int) : gNe (.int a) (.int b) = some (.bl (!decide (a = b))) := by unfold gNe; rw [gEq_int]
theorem gEq_bl (a b : Bool) : gEq (.bl a) (.bl b) = some (.bl (a == b)) := rfl
theorem gNe_bl (a b : Bool) : gNe (.bl a) (.bl b) = some (.bl (!(a == b))) := rfl
/-- a list of ints, of lists of ints -/
def il (xs : List Int) : D := .lst (xs.map .int)
def ill (xs : List (List Int)) : D := .lst (xs.map il)
theorem int_inj : Function.Injective D.int := fun a b h => by injection h
theorem map_inj {α : Type} {f : α → D} (hf : Function.Injective f) : ∀ {xs ys : List α}, xs.map f = ys.map f → xs = ys
  | [], [], _ => rfl
  | [], y :: ys, h => by cases h
  | x :: xs, [], h => by cases h
  | x :: xs, y :: ys, h => by
    rw [List.map_cons,
      List.map_cons] at h
    injection h with h1 h2
    rw [hf h1, map_inj hf h2]
theorem il_inj : Function.Injective il := fun a b h => by unfold il at h; injection h with h; exact map_inj int_inj h
theorem ill_inj : Function.Injective ill := fun a b h => by unfold ill at h; injection h with h; exact map_inj il_inj h
theorem pls_map {α : Type} {f : α → D} {n : Nat} (hf : ∀ a, pl (f a) n = true) : ∀ xs : List α, pls (xs.map f) n = true
  | [] => rfl
  | x :: xs => by rw [List.map_cons, pls, hf, pls_map hf xs]; rfl
theorem pl_il (xs : List Int) (n : Nat) : pl (il xs) (n + 1) = true := by
  unfold il; rw [pl]; simp [pls_map (n := n) (f := D.int) (fun a => rfl) xs]
theorem pl_ill (xs : List (List Int)) (n : Nat) : pl (ill xs) (n + 2) = true := by
  unfold ill; rw [pl]; simp [pls_map (n := n + 1) (f := il) (fun a => pl_il a n) xs]
theorem gEq_inj {α : Type} [DecidableEq α] {f : α → D} (hf : Function.Injective f) (hp : ∀ a, pl (f a) 60 = true) (a b : α) : gEq (f a) (f b) = some (.bl (decide (a = b))) := by
  rw [gEq_pl (hp a) (hp b)]
  congr 2
  by_cases h : a = b
  · subst h; simp
  · have : f a ≠ f b := fun z => h (hf z)
    simp [h, this]
theorem gEq_il (a b : List Int) : gEq (il a) (il b) = some (.bl (decide (a = b))) := gEq_inj il_inj (fun a => pl_il a 59) a b
theorem gEq_ill (a b : List (List Int)) : gEq (ill a) (ill b) = some (.bl (decide (a = b))) := gEq_inj ill_inj (fun a => pl_ill a 58) a b
theorem gNe_il (a b : List Int) : gNe (il a) (il b) = some (.bl (!decide (a = b))) := by unfold gNe; rw [gEq_il]
theorem gNe_ill (a b : List (List Int)) : gNe (ill a) (ill b) = some (.bl (!decide (a = b))) := by unfold gNe; rw [gEq_ill]
theorem ixN_nat {n k : Nat} (h : k < n) : ixN n (k : Int) = some k := by
  unfold ixN; rw [if_pos (by omega), if_pos (by omega), Int.toNat_natCast]
theorem atI_nat {α : Type} {xs : List α} {k : Nat} {x : α} (h : xs[k]? = some x) : atI xs (k : Int) = some x := by
  unfold atI
  obtain ⟨hl, _⟩ := List.getElem?_eq_some_iff.mp h
  rw [ixN_nat hl]
  exact h
theorem atI_of {α : Type} {xs : List α} {i : Int} {k : Nat} {x : α} (hi : i = (k : Int)) (h : xs[k]? = some x) : atI xs i = some x := by rw [hi]; exact atI_nat h
/-! loops -/
theorem loop_nx {step : D → SM} (I : Nat → En → Prop) : ∀ (ds : List D) (ss : En), I 0 ss → (∀ i d s, ds[i]? = some d → I i s → ∃ s', (step d s = .nx s' ∨ step d s = .ct s') ∧ I (i + 1) s') → ∃ s', loop step ds ss = .nx s' ∧ I ds.length s'
  | [], ss, h0, _ => ⟨ss, rfl, h0⟩
  | d :: ds, ss, h0, hs => by
    obtain ⟨s1, h1, h2⟩ := hs 0 d ss rfl h0
    obtain ⟨s', q1, q2⟩ := loop_nx (step := step) (fun i => I (i + 1)) ds s1 h2 fun i d' s hd hi => hs (i + 1) d' s (by simpa using hd) hi
    refine ⟨s', ?_, by simpa using q2⟩
    unfold loop
    rcases h1 with h1 | h1 <;> rw [h1] <;> exact q1
/-- a loop that may return -/
theorem loop_rt {step : D → SM} (I : Nat → En → Prop) (R : SO → Prop) : ∀ (ds : List D) (ss : En), I 0 ss → (∀ i d s, ds[i]? = some d → I i s → (∃ s', (step d s = .nx s' ∨ step d s = .ct s') ∧ I (i + 1) s') ∨ (∃ n v, step d s = .rt n v ∧ R (.rt n v))) →
    (∃ s', loop step ds ss = .nx s' ∧ I ds.length s') ∨ (∃ n v, loop step ds ss = .rt n v ∧ R (.rt n v))
  | [], ss, h0, _ => .inl ⟨ss, rfl, h0⟩
  | d :: ds, ss, h0, hs => by
    rcases hs 0 d ss rfl h0 with ⟨s1, h1, h2⟩ | ⟨n, v, h1, h2⟩
    · have ih := loop_rt (step := step) (fun i => I (i + 1)) R ds s1 h2 fun i d' s hd hi => hs (i + 1) d' s (by simpa using hd) hi
      have e : loop step (d :: ds) ss = loop step ds s1 := by
        conv => lhs; unfold loop
        rcases h1 with h1 | h1 <;> rw [h1]
      rw [e]
      simpa using ih
    · refine .inr ⟨n, v, ?_, h2⟩
      unfold loop
      rw [h1]
theorem lcL_map {α : Type} {tgt : Tgt} {fe : EB} {sw : En} {f : α → D} {g : α → D} : ∀ (xs : List α), (∀ x ∈ xs, ∃ s1, tgt (f x) sw = some s1 ∧ fe s1 = .ok (0, g x)) → lcL tgt tcYes fe sw (xs.map f) = .ok (xs.map g)
  | [], _ => rfl
  | x :: xs, h => by
    obtain ⟨s1, h1, h2⟩ := h x List.mem_cons_self
    rw [List.map_cons, lcL, h1]
    simp only [tcYes, h2]
    rw [lcL_map xs fun y hy => h y (List.mem_cons_of_mem _ hy)]
    rfl
theorem lcL_filter {α : Type} {tgt : Tgt} {tc : ET} {fe : EB} {sw : En} {f : α → D} {g : α → D} {p : α → Bool} : ∀ (xs : List α), (∀ x ∈ xs, ∃ s1, tgt (f x) sw = some s1 ∧ tc s1 = .ok (p x) ∧ fe s1 = .ok (0, g x)) → lcL tgt tc fe sw (xs.map f) = .ok ((xs.filter p).map g)
  | [], _ => rfl
  | x :: xs, h => by
    obtain ⟨s1, h1, h2, h3⟩ := h x List.mem_cons_self
    have ih := lcL_filter (p := p) (g := g) xs fun y hy => h y (List.mem_cons_of_mem _ hy)
    rw [List.map_cons, lcL, h1]
    simp only [h2, h3]
    cases hp : p x with
    | true => simp only [ih]; rw [List.filter_cons_of_pos hp]; rfl
    | false => simp only [ih]; rw [List.filter_cons_of_neg (by rw [hp]; decide)]
theorem il_len {xs : List Int} : gLen [il xs] = some (.int xs.length) := by unfold il gLen; simp
theorem ill_len {xs : List (List Int)} : gLen [ill xs] = some (.int xs.length) := by unfold ill gLen; simp
theorem seq_nx {F G : SM} {ss s' : En} (h : F ss = .nx s') : sSeq F G ss = G s' := by unfold sSeq; rw [h]
theorem seq_rt {F G : SM} {ss : En} {n : Nat} {d : D} (h : F ss = .rt n d) : sSeq F G ss = .rt n d := by unfold sSeq; rw [h]
theorem seq_ex {F G : SM} {ss s' : En} {e : Exo} (h : F ss = .exc e s') : sSeq F G ss = .exc e s' := by unfold sSeq; rw [h]
theorem loop_all {α : Type} {step : D → SM} {f : α → D} {p : α → Bool} {A : Sl → En} {n : Nat} {v : D} : ∀ (xs : List α) (o : Sl), (∀ x ∈ xs, ∀ o, (p x = true → ∃ o', step (f x) (A o) = .nx (A o')) ∧ (p x = false → step (f x) (A o) = .rt n v)) →
    (xs.all p = true → ∃ o', loop step (xs.map f) (A o) = .nx (A o')) ∧ (xs.all p = false → loop step (xs.map f) (A o) = .rt n v)
  | [], o, _ => ⟨fun _ => ⟨o, rfl⟩, fun h => by cases h⟩
  | x :: xs, o, h => by
    have ih := fun o => loop_all (p := p) (A := A) (n := n) (v := v) xs o fun y hy => h y (List.mem_cons_of_mem _ hy)
    obtain ⟨h1, h2⟩ := h x List.mem_cons_self o
    rw [List.all_cons, List.map_cons]
    cases hp : p x with
    | true =>
      obtain ⟨o', e⟩ := h1 hp
      have e2 : loop step (f x :: xs.map f) (A o) = loop step (xs.map f) (A o') := by
        conv => lhs; unfold loop
        rw [e]
      rw [e2, Bool.true_and]
      exact ih o'
    | false =>
      refine ⟨fun z => Bool.noConfusion z, fun _ => ?_⟩
      unfold loop
      rw [h2 hp]
theorem setI_il {i : Nat} {fi f : EB} {ss : En} {xs : List Int} {k v : Int} {j m : Nat} (h1 : f ss = .ok (0, .int v)) (h2 : fi ss = .ok (m, .int k)) (h3 : ss[i]? = some (.v 1 (il xs))) (h4 : k = (j : Int)) (h5 : j < xs.length) :
    sSetI i fi f ss = .nx (ss.set i (.v 1 (il (xs.set j v)))) := by
  unfold sSetI
  unfold il at h3
  subst h4
  simp only [h1, h2, h3]
  rw [List.length_map, ixN_nat h5]
  simp only [if_true, il, List.map_set]
theorem app_il {i : Nat} {f : EB} {ss : En} {xs : List Int} {v : Int} (h1 : f ss = .ok (0, .int v)) (h3 : ss[i]? = some (.v 1 (il xs))) (h5 : xs.length < 10000000) :
    sApp i f ss = .nx (ss.set i (.v 1 (il (xs ++ [v])))) := by
  unfold sApp
  unfold il at h3
  simp only [h1, h3]
  rw [if_pos (by simpa using h5)]
  simp only [il, List.map_append, List.map_cons, List.map_nil]
theorem il_ix {xs : List Int} {n d : Nat} {x : Int} (h : xs[d]? = some x) : ixD n (il xs) (.int (d : Int)) = some (n - 1, .int x) := by
  unfold il ixD
  dsimp only
  rw [atI_nat (k := d) (x := D.int x) (by simp [h])]
  rfl
theorem ill_ix {xs : List (List Int)} {n d : Nat} {x : List Int} (h : xs[d]? = some x) : ixD n (ill xs) (.int (d : Int)) = some (n - 1, il x) := by
  unfold ill ixD
  dsimp only
  rw [atI_nat (k := d) (x := il x) (by simp [h])]
  rfl
theorem smallI_nat {n : Nat} (h : n ≤ 1000000000) : smallI (n : Int) = true := by
  unfold smallI
  rw [Bool.and_eq_true]
  constructor
  · apply decide_eq_true; omega
  · apply decide_eq_true; omega
theorem iRg1_ok {g : EA} {ss : En} {n : Nat} (h : g ss = .ok [.int (n : Int)]) (hn : n ≤ 1000000000) : iRg1 g ss = .ok (rngD 0 n) := by
  unfold iRg1
  rw [h]
  simp only [smallI_nat hn, if_true, Int.toNat_natCast]
theorem for_rng {g : EA} {ss : En} {n : Nat} {t : Tgt} {F : SM} (h : g ss = .ok [.int (n : Int)]) (hn : n ≤ 1000000000) : sFor (iRg1 g) t F ss = loop (stepF t F) (rngD 0 n) ss := by
  unfold sFor
  rw [iRg1_ok h hn]
theorem for_lst {f : EB} {ss : En} {ds : List D} {t : Tgt} {F : SM} (h : f ss = .ok (0, .lst ds)) : sFor (iSeq f) t F ss = loop (stepF t F) ds ss := by
  have e : iSeq f ss = .ok ds := by unfold iSeq; rw [h]; rfl
  unfold sFor
  rw [e]
theorem for_il {f : EB} {ss : En} {xs : List Int} {t : Tgt} {F : SM} (h : f ss = .ok (0, il xs)) : sFor (iSeq f) t F ss = loop (stepF t F) (xs.map .int) ss := for_lst h
theorem for_ill {f : EB} {ss : En} {xs : List (List Int)} {t : Tgt} {F : SM} (h : f ss = .ok (0, ill xs)) : sFor (iSeq f) t F ss = loop (stepF t F) (xs.map il) ss := for_lst h
theorem rep_zero {f2 : EB} {ss : En} {m n : Nat} (h2 : f2 ss = .ok (m, .int (n : Int))) (hn : n ≤ 10000000) : eRep (frzE (eLst (a0Cons (eC (.int 0)) aNil))) f2 ss = .ok (1, il (List.replicate n 0)) := by
  have h1 : frzE (eLst (a0Cons (eC (.int 0)) aNil)) ss = .ok (0, .lst [.int 0]) := rfl
  unfold eRep
  rw [h1]
  simp only [h2, smallI_nat (show n ≤ 1000000000 by omega), Int.toNat_natCast]
  rw [if_pos ⟨by decide, True.intro, by simpa using hn⟩]
  simp [il]
theorem len_il {ss : En} {i n : Nat} {xs : List Int} (h : ss[i]? = some (.v n (il xs))) : eCall gLen (aCons (eVar i) aNil) ss = .ok (0, .int (xs.length : Int)) := by
  simp [eCall, aCons, eVar, aNil, h, il_len]
theorem len_ill {ss : En} {i n : Nat} {xs : List (List Int)} (h : ss[i]? = some (.v n (ill xs))) : eCall gLen (aCons (eVar i) aNil) ss = .ok (0, .int (xs.length : Int)) := by
  simp [eCall, aCons, eVar, aNil, h, ill_len]
theorem aOne {f : EB} {ss : En} {n : Nat} {d : D} (h : f ss = .ok (n, d)) : aCons f aNil ss = .ok [d] := by
  simp [aCons, aNil, h]
theorem asg_ok {f : EB} {ss : En} {i n : Nat} {d : D} (h : f ss = .ok (n, d)) : sAsg i f ss = .nx (ss.set i (.v n d)) := by unfold sAsg; rw [h]
theorem own0_ok {f : EB} {ss : En} {d : D} (h : f ss = .ok (0, d)) : own0 f ss = .ok (0, d) := by
  unfold own0; rw [h]; rfl
theorem fn_rt {np nn : Nat} {F : SM} {ds : List D} {env : En} {n : Nat} {d : D} (h1 : ds.length = np) (h2 : ds.map (Sl.v 0) ++ List.replicate (nn - np) .un = env) (h : F env = .rt n d) : fnM np nn F ds = .ok (n, d) := by
  unfold fnM
  rw [if_pos h1, h2, h]
theorem fn_ex {np nn : Nat} {F : SM} {ds : List D} {env ss : En} {e : Exo} (h1 : ds.length = np) (h2 : ds.map (Sl.v 0) ++ List.replicate (nn - np) .un = env) (h : F env = .exc e ss) : fnM np nn F ds = .exc e := by
  unfold fnM
  rw [if_pos h1, h2, h]
theorem retV_ok {ss : En} {i n : Nat} {d : D} (h : ss[i]? = some (.v n d)) : sRetV i ss = .rt n d := by unfold sRetV; rw [h]
theorem ret_ok {ss : En} {f : EB} {n : Nat} {d : D} (h : f ss = .ok (n, d)) : sRet f ss = .rt n d := by unfold sRet; rw [h]
theorem if_t {t : ET} {F G : SM} {ss : En} (h : t ss = .ok true) : sIf t F G ss = F ss := by unfold sIf; rw [h]
theorem if_f {t : ET} {F G : SM} {ss : En} (h : t ss = .ok false) : sIf t F G ss = G ss := by unfold sIf; rw [h]
theorem lc_ok {α : Type} {vs : List Nat} {fi : EI} {tgt : Tgt} {fe : EB} {ss : En} {f g : α → D} (xs : List α) (h1 : fi ss = .ok (xs.map f)) (hl : xs.length < 10000000)
    (h : ∀ x ∈ xs, ∃ s1, tgt (f x) (wipeS ss vs) = some s1 ∧ fe s1 = .ok (0, g x)) : eLc vs fi tgt tcYes fe ss = .ok (1, .lst (xs.map g)) := by
  unfold eLc
  rw [h1]
  simp only [List.length_map, hl, if_true]
  rw [lcL_map xs h]
theorem lcF_ok {α : Type} {vs : List Nat} {fi : EI} {tgt : Tgt} {tc : ET} {fe : EB} {ss : En} {f g : α → D} {p : α → Bool} (xs : List α) (h1 : fi ss = .ok (xs.map f)) (hl : xs.length < 10000000)
    (h : ∀ x ∈ xs, ∃ s1, tgt (f x) (wipeS ss vs) = some s1 ∧ tc s1 = .ok (p x) ∧ fe s1 = .ok (0, g x)) : eLc vs fi tgt tc fe ss = .ok (1, .lst ((xs.filter p).map g)) := by
  unfold eLc
  rw [h1]
  simp only [List.length_map, hl, if_true]
  rw [lcL_filter xs h]
theorem iSeq_ok {f : EB} {ss : En} {ds : List D} (h : f ss = .ok (0, .lst ds)) : iSeq f ss = .ok ds := by unfold iSeq; rw [h]; rfl
theorem frz_ok {f : EB} {ss : En} {n : Nat} {d : D} (h : f ss = .ok (n, d)) : frzE f ss = .ok (0, d) := by unfold frzE; rw [h]
theorem var_ok {ss : En} {i n : Nat} {d : D} (h : ss[i]? = some (.v n d)) : eVar i ss = .ok (n, d) := by unfold eVar; rw [h]
theorem cut_from {xs : List D} {a : Nat} : cutD xs (some (a : Int)) none = xs.drop a := by
  unfold cutD
  rw [HT.sIx_nat, HT.sIx_none]
  by_cases h : a ≤ xs.length
  · rw [Nat.min_eq_left h]; exact List.take_of_length_le (by simp)
  · rw [Nat.min_eq_right (by omega), List.drop_of_length_le (Nat.le_refl _), List.drop_of_length_le (by omega)]; simp
theorem cut_to {xs : List D} {a : Nat} : cutD xs none (some (a : Int)) = xs.take a := by
  unfold cutD
  rw [HT.sIx_nat, HT.sIx_none, List.drop_zero, Nat.sub_zero]
  by_cases h : a ≤ xs.length
  · rw [Nat.min_eq_left h]
  · rw [Nat.min_eq_right (by omega),
      List.take_of_length_le (Nat.le_refl _), List.take_of_length_le (by omega)]
theorem sl_from {f g : EB} {ss : En} {n m a : Nat} {xs : List Int} (h : f ss = .ok (n, il xs)) (hn : n ≤ 1) (hg : g ss = .ok (m, .int (a : Int))) : eSl f (pSome g) pNone ss = .ok (1, il (xs.drop a)) := by
  unfold eSl pSome pNone il
  unfold il at h
  simp only [h, hg, hn, if_true, cut_from, List.map_drop]
theorem sl_to {f g : EB} {ss : En} {n m a : Nat} {xs : List Int} (h : f ss = .ok (n, il xs)) (hn : n ≤ 1) (hg : g ss = .ok (m, .int (a : Int))) : eSl f pNone (pSome g) ss = .ok (1, il (xs.take a)) := by
  unfold eSl pSome pNone il
  unfold il at h
  simp only [h, hg, hn, if_true, cut_to, List.map_take]
theorem cat_il {f g : EB} {ss : En} {n m : Nat} {xs ys : List Int} (h : f ss = .ok (n, il xs)) (hg : g ss = .ok (m, il ys)) (hn : n ≤ 1) (hm : m ≤ 1) (hl : xs.length + ys.length ≤ 10000000) : eCat f g ss = .ok (1, il (xs ++ ys)) := by
  unfold eCat il
  unfold il at h hg
  simp only [h, hg]
  rw [if_pos ⟨hn, hm, by simpa using hl⟩, List.map_append]
theorem list_il {f : EB} {ss : En} {n : Nat} {xs : List Int} (h : f ss = .ok (n, il xs)) (hn : n ≤ 1) : eList f ss = .ok (1, il xs) := by
  unfold eList il
  unfold il at h
  simp only [h, hn, if_true]
theorem choose_fn {α β : Type} [Inhabited β] {P : α → β → Prop} {xs : List α} (h : ∀ x ∈ xs, ∃ y, P x y) : ∃ f : α → β, ∀ x ∈ xs, P x (f x) := by
  classical
  exact ⟨fun x => if q : x ∈ xs then (h x q).choose else default, fun x q => by simp only [q, dif_pos]; exact (h x q).choose_spec⟩
theorem stepF_name {i : Nat} {F : SM} {d : D} {ss : En} : stepF (tgName i) F d ss = F (ss.set i (.v 0 d)) := rfl
theorem frzS_at {i n : Nat} {F : SM} {ss : En} {d : D} (h : ss[i]? = some (.v n d)) : sFrz i F ss = F (ss.set i (.v 0 d)) := by unfold sFrz frzSl; rw [h]
theorem frzS_un {i : Nat} {F : SM} {ss : En} (h : ss[i]? = some .un) : sFrz i F ss = F ss := by unfold sFrz frzSl; rw [h]
theorem a0_ok {f : EB} {g : EA} {ss : En} {d : D} {ds : List D} (h : f ss = .ok (0, d)) (hg : g ss = .ok ds) : a0Cons f g ss = .ok (d :: ds) := by
  have e : a0Cons f g ss = (match g ss with
    | .ok ds => .ok (d :: ds)
    | .exc e => .exc e
    | .no => .no) := by unfold a0Cons; rw [h]; rfl
  rw [e, hg]
theorem aC_ok {f : EB} {g : EA} {ss : En} {n : Nat} {d : D} {ds : List D} (h : f ss = .ok (n, d)) (hg : g ss = .ok ds) : aCons f g ss = .ok (d :: ds) := by
  unfold aCons; rw [h, hg]
theorem fn_ok' {m : FM} {g : EA} {ss : En} {ds : List D} (h : g ss = .ok ds) : eFn m g ss = m ds := by unfold eFn; rw [h]
theorem fnF_ok {m : FM} {g : EA} {ss : En} {ds : List D} {n : Nat} {d : D} (h : g ss = .ok ds) (hm : m ds = .ok (n, d)) (hf : flat d = true) : eFnF m g ss = .ok (0, d) := by
  unfold eFnF; rw [h]; simp only [hm, hf, if_true]
theorem ixi_ok {f g : EB} {ss : En} {m k : Nat} {xs : List Int} {x : Int} (h : f ss = .ok (0, il xs)) (hg : g ss = .ok (m, .int (k : Int))) (hx : xs[k]? = some x) : eIx f g ss = .ok (0, .int x) := by
  unfold eIx; rw [h]; simp only [hg, il_ix hx]
theorem ixi1_ok {f g : EB} {ss : En} {m n k : Nat} {xs : List Int} {x : Int} (h : f ss = .ok (n, il xs)) (hn : n ≤ 1) (hg : g ss = .ok (m, .int (k : Int))) (hx : xs[k]? = some x) : eIx f g ss = .ok (0, .int x) := by
  unfold eIx; rw [h]; simp only [hg, il_ix hx, show n - 1 = 0 by omega]
theorem test_ok {f : EB} {ss : En} {n : Nat} {b : Bool} (h : f ss = .ok (n, .bl b)) : eTest f ss = .ok b := by unfold eTest; rw [h]
theorem tnot_ok {t : ET} {ss : En} {b : Bool} (h : t ss = .ok b) : tyNot t ss = .ok (!b) := by unfold tyNot; rw [h]
theorem tand_t {t u : ET} {ss : En} (h : t ss = .ok true) : tyAnd t u ss = u ss := by unfold tyAnd; rw [h]
theorem tand_f {t u : ET} {ss : En} (h : t ss = .ok false) : tyAnd t u ss = .ok false := by unfold tyAnd; rw [h]
theorem tor_t {t u : ET} {ss : En} (h : t ss = .ok true) : tyOr t u ss = .ok true := by unfold tyOr; rw [h]
theorem tor_f {t u : ET} {ss : En} (h : t ss = .ok false) : tyOr t u ss = u ss := by unfold tyOr; rw [h]
theorem tand_ok {t u : ET} {ss : En} {a b : Bool} (h : t ss = .ok a) (hu : u ss = .ok b) : tyAnd t u ss = .ok (a && b) := by
  cases a with
  | true => rw [tand_t h, hu]; rfl
  | false => rw [tand_f h]; rfl
theorem tor_ok {t u : ET} {ss : En} {a b : Bool} (h : t ss = .ok a) (hu : u ss = .ok b) : tyOr t u ss = .ok (a || b) := by
  cases a with
  | true => rw [tor_t h]; rfl
  | false => rw [tor_f h, hu]; rfl
theorem op_ok {g : D → D → Option D} {f1 f2 : EB} {ss : En} {n m : Nat} {a b d : D} (h1 : f1 ss = .ok (n, a)) (h2 : f2 ss = .ok (m, b)) (hg : g a b = some d) : eOp g f1 f2 ss = .ok (0, d) := by unfold eOp; rw [h1]; simp only [h2, hg]
theorem un_ok {g : D → Option D} {f1 : EB} {ss : En} {n : Nat} {a d : D} (h1 : f1 ss = .ok (n, a)) (hg : g a = some d) : eUn g f1 ss = .ok (0, d) := by unfold eUn; rw [h1]; simp only [hg]
theorem call_ok {g : List D → Option D} {ga : EA} {ss : En} {ds : List D} {d : D} (h1 : ga ss = .ok ds) (hg : g ds = some d) : eCall g ga ss = .ok (0, d) := by unfold eCall; rw [h1]; simp only [hg]
theorem and_ok {f g : EB} {ss : En} {n m : Nat} {a b : Bool} (h1 : f ss = .ok (n, .bl a)) (h2 : g ss = .ok (m, .bl b)) : ∃ k, eAnd f g ss = .ok (k, .bl (a && b)) := by
  unfold eAnd; rw [h1]
  cases a with
  | true => exact ⟨m, by simp only [h2]; rfl⟩
  | false => exact ⟨0, rfl⟩
theorem and_ok0 {f g : EB} {ss : En} {n : Nat} {a b : Bool} (h1 : f ss = .ok (n, .bl a)) (h2 : g ss = .ok (0, .bl b)) : eAnd f g ss = .ok (0, .bl (a && b)) := by
  unfold eAnd; rw [h1]
  cases a with
  | true => simp only [h2]; rfl
  | false => rfl
theorem not_ok {f : EB} {ss : En} {n : Nat} {a : Bool} (h1 : f ss = .ok (n, .bl a)) : eNot f ss = .ok (0, .bl (!a)) := by unfold eNot; rw [h1]
theorem toInt_ok {f : EB} {ss : En} {n : Nat} {a : Int} (h : f ss = .ok (n, .int a)) : eCall gToInt (aCons f aNil) ss = .ok (0, .int a) := call_ok (aOne h) rfl
theorem step_eq {i : Nat} {F : SM} {d : D} {ss s1 : En} (h : ss.set i (.v 0 d) = s1) : stepF (tgName i) F d ss = F s1 := by subst h; rfl
theorem lg {i : Int} (h1 : -4611686018427387904 < i) (h2 : i < 4611686018427387904) : i.natAbs.log2 < 63 := by
  by_cases h : i.natAbs = 0
  · rw [h]; decide
  · rw [Nat.log2_lt h]
    have e : (2 : Nat) ^ 63 = 9223372036854775808 := by decide
    rw [e]; omega
theorem mul_ok {f1 f2 : EB} {ss : En} {n m : Nat} {a b : Int} (h1 : f1 ss = .ok (n, .int a)) (h2 : f2 ss = .ok (m, .int b)) (a1 : -4611686018427387904 < a) (a2 : a < 4611686018427387904) (b1 : -4611686018427387904 < b) (b2 : b < 4611686018427387904) : eOp gMul f1 f2 ss = .ok (0, .int (a * b)) := by
  refine op_ok h1 h2 ?_
  have x := lg a1 a2
  have y := lg b1 b2
  unfold gMul gIntC
  have d : decide (a.natAbs.log2 + b.natAbs.log2 < 1000000) = true := decide_eq_true (by omega)
  simp only [d, if_true]
theorem mod_ok {f1 f2 : EB} {ss : En} {n m : Nat} {a b : Int} (h1 : f1 ss = .ok (n, .int a)) (h2 : f2 ss = .ok (m, .int b)) (hb : 0 < b) : eOp gMod f1 f2 ss = .ok (0, .int (a % b)) := by
  refine op_ok h1 h2 ?_
  unfold gMod gIntC
  simp only [decide_eq_true hb, if_true]
theorem div_ok {f1 f2 : EB} {ss : En} {n m : Nat} {a b : Int} (h1 : f1 ss = .ok (n, .int a)) (h2 : f2 ss = .ok (m, .int b)) (hb : 0 < b) (hb2 : b < 4611686018427387904) : eOp gDiv f1 f2 ss = .ok (0, .int (a / b)) := by
  refine op_ok h1 h2 ?_
  have x := lg (i := b) (by omega) hb2
  unfold gDiv gIntC
  have d : decide (b.natAbs.log2 < 9000) = true := decide_eq_true (by omega)
  simp only [decide_eq_true hb, d, Bool.and_self, if_true]
theorem add_ok {f1 f2 : EB} {ss : En} {n m : Nat} {a b : Int} (h1 : f1 ss = .ok (n, .int a)) (h2 : f2 ss = .ok (m, .int b)) : eOp gAdd f1 f2 ss = .ok (0, .int (a + b)) := op_ok h1 h2 rfl
theorem sub_ok {f1 f2 : EB} {ss : En} {n m : Nat} {a b : Int} (h1 : f1 ss = .ok (n, .int a)) (h2 : f2 ss = .ok (m, .int b)) : eOp Mv.gSub f1 f2 ss = .ok (0, .int (a - b)) := op_ok h1 h2 rfl
theorem lt_ok {f1 f2 : EB} {ss : En} {n m : Nat} {a b : Int} (h1 : f1 ss = .ok (n, .int a)) (h2 : f2 ss = .ok (m, .int b)) : eOp gLt f1 f2 ss = .ok (0, .bl (decide (a < b))) := op_ok h1 h2 rfl
theorem gt_ok {f1 f2 : EB} {ss : En} {n m : Nat} {a b : Int} (h1 : f1 ss = .ok (n, .int a)) (h2 : f2 ss = .ok (m, .int b)) : eOp gGt f1 f2 ss = .ok (0, .bl (decide (b < a))) := op_ok h1 h2 rfl
theorem ge_ok {f1 f2 : EB} {ss : En} {n m : Nat} {a b : Int} (h1 : f1 ss = .ok (n, .int a)) (h2 : f2 ss = .ok (m, .int b)) : eOp gGe f1 f2 ss = .ok (0, .bl (decide (b ≤ a))) := op_ok h1 h2 rfl
theorem le_ok {f1 f2 : EB} {ss : En} {n m : Nat} {a b : Int} (h1 : f1 ss = .ok (n, .int a)) (h2 : f2 ss = .ok (m, .int b)) : eOp gLe f1 f2 ss = .ok (0, .bl (decide (a ≤ b))) := op_ok h1 h2 rfl
theorem eq_ok {f1 f2 : EB} {ss : En} {n m : Nat} {a b : Int} (h1 : f1 ss = .ok (n, .int a)) (h2 : f2 ss = .ok (m, .int b)) : eOp gEq f1 f2 ss = .ok (0, .bl (decide (a = b))) := op_ok h1 h2 (gEq_int a b)
theorem pow_ok {ss : En} {a : Int} {n : Nat} (hn : n ≤ 1000000) (ha : a.natAbs < 18446744073709551616) : eOp gPow (eC (.int a)) (eC (.int (n : Int))) ss = .ok (0, .int (a ^ n)) := by
  refine op_ok (n := 0) (m := 0) rfl rfl ?_
  unfold gPow gIntC
  have e : (2 : Nat) ^ 64 = 18446744073709551616 := by
    decide
  have d1 : decide (0 ≤ (n : Int)) = true := decide_eq_true (by omega)
  have d2 : decide ((n : Int) ≤ 1000000) = true := decide_eq_true (by omega)
  have d3 : decide (a.natAbs < 2 ^ 64) = true := decide_eq_true (by rw [e]; exact ha)
  simp only [d1, d2, d3, Bool.and_self, if_true, Int.toNat_natCast]
theorem c_ok {ss : En} {d : D} : eC d ss = .ok (0, d) := rfl
end Mv

namespace Mv
open PySem L2
section
variable {K : PySem.W.Frag} {B0 H0 B B' H H' : Hp} {σ : St} {ss : En} {fps : List (List Addr)}
/-- what slot i owns is changed in place, and may take up fresh cells -/
theorem SI.chg (h : SI K B0 H0 B σ H ss fps) {i : Nat} {s' : Sl} {v : V} {fp fp' : List Addr} (hσ : σ[i]? = some (some v)) (hf : fps[i]? = some fp) (eq : ∀ a, a ∉ fp → H' a = H a) (r : slotOk K B H' s' (some v) fp') (nd : fp'.Nodup)
    (fr : ∀ a ∈ fp', a ∈ fp ∨ (a ∉ fps.flatten ∧ B a = none ∧ H0 a = none)) : SI K B0 H0 B σ H' (ss.set i s') (fps.set i fp') := by
  have hm : fp ∈ fps := List.mem_of_getElem? hf
  have bh : Le B H' := fun a o e => by
    rw [eq a fun z => by rw [h.pi.fr a (mem_fl hm z)] at e; cases e]
    exact h.pi.bh a o e
  have h0 : Le H0 H' := fun a o e => by
    rw [eq a fun z => by rw [h.fr a (mem_fl hm z)] at e; cases e]
    exact h.st.hh a o e
  have q : All3 (slotOk K B H') (ss.set i s') (σ.set i (some v)) (fps.set i fp') :=
    all3_ixset h.pi.al (fun j s o c hj hc w => w.mono (Le.refl B) fun a ha => eq a fun z => apart_of h.pi.nd hf hc hj a ha z) r
  rw [set_same hσ] at q
  have both : ∀ a ∈ (fps.set i fp').flatten, B a = none ∧ H0 a = none := fun a ha => by
    rcases mem_set_fl ha with z | z
    · exact ⟨h.pi.fr a z, h.fr a z⟩
    · rcases fr a z with w | w
      · exact ⟨h.pi.fr a (mem_fl hm w), h.fr a (mem_fl hm w)⟩
      · exact w.2
  refine ⟨⟨bh, q, nodup_set h.pi.nd nd i (fun _ _ => True.intro) fun a ha c hc hac => ?_, fun a ha => (both a ha).1⟩, ⟨h.st.bb, h0, bh, h.st.dj⟩, fun a ha => (both a ha).2⟩
  rcases fr a ha with w | w
  · exact ⟨_, hf, w⟩
  · exact absurd (mem_fl hc hac) w.1
/-- a slot with a known reference, read as a plain one -/
theorem SI.forget (h : SI K B0 H0 B σ H ss fps) {i n : Nat} {w : V} {d : D} (hs : ss[i]? = some (.o w n d)) : SI K B0 H0 B σ H (ss.set i (.v n d)) fps ∧ σ[i]? = some (some w) := by
  obtain ⟨o, fp, h1, h2, h3, h4⟩ := h.pi.al.get hs
  subst h3
  have q := h.chg (s' := .v n d) (fp' := fp) h1 h2 (fun a _ => rfl) ⟨w, rfl, h4⟩ (nd_mem h.pi.nd (List.mem_of_getElem? h2)) fun a ha => .inl ha
  rw [set_same h2] at q
  exact ⟨q, h1⟩
theorem SI.tag (h : SI K B0 H0 B σ H ss fps) {i n : Nat} {w : V} {d : D} (hs : ss[i]? = some (.v n d)) (hσ : σ[i]? = some (some w)) : SI K B0 H0 B σ H (ss.set i (.o w n d)) fps := by
  obtain ⟨o, fp, h1, h2, v, h3, h4⟩ := h.pi.al.get hs
  subst h3
  rw [hσ] at h1
  cases h1
  have q := h.chg (s' := .o w n d) (fp' := fp) hσ h2 (fun a _ => rfl) ⟨rfl, h4⟩ (nd_mem h.pi.nd (List.mem_of_getElem? h2)) fun a ha => .inl ha
  rw [set_same h2] at q
  exact q
end

/-- x.append(..) at a slot with a known reference -/
def sAppO (i : Nat) (f : EB) : SM := fun ss => match ss[i]? with
  | some (.o w (n + 1) (.lst ds)) => (match f ss with
    | .ok (m, d) => if m = n ∧ ds.length < 10000000 then .nx (ss.set i (.o w (n + 1) (.lst (ds ++ [d])))) else .no
    | .exc e => .exc e ss
    | .no => .no)
  | _ => .no
section
variable {X : Cx} {W : WX} {e a b : Expr} {pos : Pos} {f f1 fi : EB}
theorem s_appO (i : Nat) {x : Str} {p apos cpos : Pos} (he : PE X e (tM X.K W f)) (hN : X.N[i]? = some x := by rfl) (hv : Vis X.env.scope x := by first | exact Or.inl rfl | exact Or.inr (Or.inl rfl) | exact Or.inr (Or.inr rfl)) (hd : (x == ("__debug__" : Str)) = false := by decide)
    (hcd : (x == ("__classdict__" : Str)) = false := by decide)
    (hbase : attributeBase (.Name x p) "append" X.env (eval (.Name x p) X.env) = eval (.Name x p) X.env := by rfl)
    (hfew : ((backTo cpos (starEach [e] X.env)).all (fun x => !x.1) && (backToKw cpos (keywordEach [] X.env)).all (fun x => x.1.isSome) && decide (([e] : List Expr).length + ([] : List Keyword).length + (if ([] : List Keyword).isEmpty then 0 else 1) < 30)) = true := by rfl)
    (hline : (apos.endLine == cpos.line) = true := by rfl) (hs : starEach [e] X.env = (false, eval e X.env) :: starEach [] X.env := by rfl) (hplain : (backTo cpos (starEach [] X.env)).any (·.1) = false := by rfl)
    (hsw : swapsWith (.Call (.Attribute (.Name x p) "append" apos) [e] [] cpos) none pos.line X.env = pure false := by rfl) :
    PS X (.Expr (.Call (.Attribute (.Name x p) "append" apos) [e] [] cpos) pos) (tS X.K W (sAppO i f)) := by
  refine ps_w (ps_expr (pe_bm PySem.F.plainAttrs_list PySem.F.slot_list_append PySem.F.type_list_append mt_append (pe_var hN hv hd hcd) (pa_cons he pa_nil hs) hbase hfew hline hs hplain) hsw) fun E σ H hq => ?_
  obtain ⟨B0, H0, B, ss, fps, si, k⟩ := tS_get hq
  unfold sAppO at k
  split at k
  · rename_i w n ds hi
    obtain ⟨sf, hw⟩ := si.forget hi
    have hlt : i < ss.length := by
      obtain ⟨z, _⟩ := List.getElem?_eq_some_iff.mp hi
      exact z
    have hi2 : (ss.set i (.v (n + 1) (.lst ds)))[i]? = some (.v (n + 1) (.lst ds)) := List.getElem?_set_self hlt
    obtain ⟨ds', p, xs, fpc, e0, h1, h2, h3, al⟩ := sf.own hi2
    cases e0
    rw [hw] at h1
    cases h1
    refine ⟨.ref p, hw, .inl ⟨rfl, _, SqL.of h3⟩, B, ss, fps, si.pi, ?_⟩
    cases hf : f ss with
    | ok r =>
      obtain ⟨m, d⟩ := r
      simp only [hf] at k
      intro B1 v H1 fp s1 nw
      by_cases hc : m = n ∧ ds.length < 10000000
      · rw [if_pos hc] at k
        obtain ⟨rfl, hl⟩ := hc
        obtain ⟨p2, xs2, fps', q1, q2, q3, q4⟩ := (sf.step s1).app hi2 nw (fun a ha => by obtain ⟨ys, e⟩ := si.pi.here a ha; rw [e]; exact fun z => nomatch z) si.st.hh
        rw [hw] at q1
        cases q1
        rw [List.set_set] at q4
        have q5 := q4.tag (List.getElem?_set_self hlt) hw
        rw [List.set_set] at q5
        exact ⟨p, xs2, v, rfl, rfl, q2, by rw [← q3]; exact size_lt hl, k B1 σ _ fps' q5⟩
      · rw [if_neg hc] at k; exact k.elim
    | exc e => simp only [hf] at k; exact fun B' cls dd H' st ex => k B' σ H' fps cls dd (si.step st) ex
    | no => simp only [hf] at k; exact k.elim
  · exact k.elim
end
end Mv

namespace Mv
open PySem L2 NdefX
open Classical

/-! ### super().__init__(msg) in an exception class's own __init__ -/
/-- the def F at f is the __init__ that the class at D has written; its cell at cc -/
structure SupD (P : Program) (K : PySem.W.Frag) (F : NF) (cc f D : Addr) (fd : FuncData) : Prop where
  lk : ∃ (oc : Value) (od : Option Addr) (osl : Array (Option Value)) (dV kV doc pm : Value) (an : Option Addr) (ct : Value),
    fd = PySem.W.fnX F.name F.qual F.params F.body F.scope F.cl dV kV doc pm an (.ref F.c) ct ∧ K.lookup f = some ⟨oc, od, .func fd, osl⟩
  cl : F.cl = [(("__class__" : Str), cc)]
  hcd : PySem.W.codeIn K (.ref F.c) F.qual = true
  code : ∃ (ccl : Value) (cdd : Option Addr) (vs : Array Value) (ccs : Array (Option Value)) (file : Str) (tf : Tok), K.lookup F.c = some ⟨ccl, cdd, .fields vs, ccs⟩ ∧ vs[2]? = some (.str file tf) ∧ ((P.main.file : Str) == file) = true
  cell : ∃ (c : Value) (cld : Option Addr) (csl : Array (Option Value)), K.lookup cc = some ⟨c, cld, .cell (some (.ref D)), csl⟩
  cls : PySem.W.isClsIn K D = true
  top : (P.main.scope.names.lookup ("super" : Str)).isSome = false
  op : PySem.W.nsIn K cStatics "thirdparty.any" = some none
/-- .. as the class C of an instance sees it -/
structure SupC (K : PySem.W.Frag) (C D : Addr) : Prop where
  m : PySem.W.mroIn K C (.ref D) = some true
  along : PySem.W.ks_superIn K C D "__init__" = some (some (.builtin "ValueError.__init__"))
  ve : PySem.W.subIn K (.ref C) (.type "ValueError") = some true
/-- what of the scope is asked -/
structure SupS (F : NF) : Prop where
  ks : F.scope.names.lookup ("super" : Str) = some .globalImplicit
  kc : F.scope.names.lookup ("__class__" : Str) = some .free
  ka : F.scope.names.lookup ("self" : Str) = some .local
  kf : F.scope.kind = .function
  ar : ∃ ar, (F.params.posonlyargs ++ F.params.args).head? = some ar ∧ ar.arg = "self"

section
variable {X : Cx} {F : NF} {cc f D C e L : Addr} {fd : FuncData} {σ : St} {H : Hp} {s : Shared} {msg : Expr} {te : TE} {p0 p1 p2 p3 p4 : Pos} {body : List Stmt} {Q : Flow → Shared → Prop}
theorem sup_stmt (S : SupD X.prog X.K F cc f D fd) (SC : SupC X.K C D) (T : OexC X.K C) (SS : SupS F) (he : X.env = envF F f L) (hm : X.mg "super" = none) (hN : X.N[0]? = some ("self" : Str)) (hσ : σ[0]? = some (some (.ref e)))
    (I : Inv X [] σ H s) (hx : H e = some (exo e C none)) {pl : Sem Bool} (hmsg : PE X msg te) (hev : eval (.Call (.Attribute (.Call (.Name "super" p0) [] [] p1) "__init__" p2) [msg] [] p3) X.env = (do
      let ov ← attributeBase (.Call (.Name "super" p0) [] [] p1) "__init__" X.env (eval (.Call (.Name "super" p0) [] [] p1) X.env)
      standAt p2.atName
      let (m1, fst1) ← holding [ov] (getMethod ov "__init__" pl)
      callWith p3 m1 fst1 (backTo p3 (starEach [msg] X.env)) []))
    (hst : starEach [msg] X.env = (false, eval msg X.env) :: starEach [] X.env) (h : te σ H fun v H1 => H1 e = some (exo e C none) ∧ ∀ s', Inv X [] σ H1 s' → Q .next s') :
    PySem.wpAt (model X.prog X.w) X.A (.func body X.env) (exec (.Expr (.Call (.Attribute (.Call (.Name "super" p0) [] [] p1) "__init__" p2) [msg] [] p3) p4) X.env) Q X.xe s := by
  obtain ⟨oc, od, osl, dV, kV, doc, pm, an, ct, rfl, lk⟩ := S.lk
  obtain ⟨ccl, cdd, vs, ccs, file, tf, hcode, hvs, hfile⟩ := S.code
  obtain ⟨cl, cld, csl, hcell⟩ := S.cell
  obtain ⟨ar, har, hars⟩ := SS.ar
  have KX := I.kIn
  have eK : X.env.scope = F.scope := by rw [he]
  have hks : X.env.kindOf "super" = some .globalImplicit := by show X.env.scope.names.lookup _ = _; rw [eK]; exact SS.ks
  have hkc : X.env.kindOf "__class__" = some .free := by show X.env.scope.names.lookup _ = _; rw [eK]; exact SS.kc
  have hka : X.env.kindOf "self" = some .local := by show X.env.scope.names.lookup _ = _; rw [eK]; exact SS.ka
  have hkf : X.env.scope.kind = .function := by rw [eK]; exact SS.kf
  obtain ⟨t1, ho⟩ := exo_at I.hok hx
  obtain ⟨cdD, hD⟩ := Option.isSome_iff_exists.mp (show (PySem.W.clsIn X.K D).isSome = true from S.cls)
  obtain ⟨oD, hD1, hD2⟩ : ∃ oD, s.heap.get? D = some oD ∧ oD.data = .cls cdD := by
    unfold PySem.W.clsIn at hD
    split at hD
    · rename_i c d cd' sl ho
      cases hD
      exact ⟨_, KX _ _ ho, rfl⟩
    · cases hD
  rcases T.cls with ⟨nm, q, N, bs, bm, sn, sub, ab, col, dd, k0, k1, k2, k3, k5, hC, hbm⟩
  have hcl : ∃ cd, PySem.W.clsIn X.K C = some cd := by
    refine ⟨{ name := nm, bases := bs, mro := .ref C :: bm, ns := N, qualname := q, hasDict := true, slotNames := sn, subclasses := sub, abstract := ab, collection := col, hasDel := false }, ?_⟩
    unfold PySem.W.clsIn; rw [hC] <;> rfl
  obtain ⟨cd, hcl⟩ := hcl
  have halong := SC.along
  unfold PySem.W.ks_superIn at halong
  rw [hcl] at halong
  obtain ⟨mL, hns, hl⟩ := I.loc
  obtain ⟨u, ru, lu⟩ := hl 0 "self" (.ref e) hN hσ (.inl hka)
  obtain rfl : u = Value.ref e := ru
  have hms : mL "self" = some (.ref e) := by
    rcases lu with ⟨_, z⟩ | ⟨z, _⟩
    · exact z
    · rcases z with z | z
      · rw [hka] at z; cases z
      · rw [hka] at z; cases z
  obtain ⟨hp, g, d, t, os⟩ := s
  refine PySem.ks_wpAt_Expr_any ?_ I.quiet
  refine PySem.ks_wpAt_MethodCall (pl := pl) ?_ hev
  refine PySem.ks_wpAt_super_base (env := X.env) hks hkc rfl (by rw [he]) (KX _ _ lk) rfl har (by rw [he]) (KX _ _ hcode) rfl hvs hfile S.top ?_
  rcases I.mod.blt with ⟨mb, h1, h2⟩
  refine PySem.W.ks_loadName_global hkf hks (Calls.loadGlobal_builtin (by rw [I.ok.glob]; exact I.mod.glob.keeps I.bk) hm (by rw [I.ok.blt]; exact h1.keeps I.bk) ((h2 "super" (by decide)).trans PyProof.Rows.Boot.«super») ⟨rfl, ?_⟩)
  refine wpAny_loadName_free hkf hkc (c := cc) (by rw [he]; show F.cl.lookup _ = _; rw [S.cl]; rfl) ⟨_, KX _ _ hcell, rfl⟩ ?_
  rw [hars]
  refine wpAny_loadName_local hkf hka hns hms ?_
  refine PySem.ks_wpAny_isType_cls hD1 hD2 ⟨rfl, ?_⟩
  refine PySem.ks_wpAny_call_super hD1 hD2 ho rfl (fun c z => nomatch z) (PySem.W.looks_mroIn KX SC.m) (fun h' e1 kp => ?_)
  have hxC : e ≠ C := fun z => by
    have := KX _ _ hC
    rw [← z, ho] at this
    cases this
  have KX' : X.K.In h' := fun b o z => kp _ _ (KX b o z)
  have IA : PySem.W.InstAt h' e ({ cls := .ref C, dict := none, data := .fields #[.ref t1, .none, .none, .none, .bool false, .none] } : Obj) C none := ⟨kp _ _ ho, rfl, rfl, trivial⟩
  refine PySem.W.kxs_getMethod PySem.W.kxs_ValueError e1 (PySem.W.looks_opaque KX' S.op) (l₀ := cd.mro) (fun A Q E s k q => wpAny_bind ((PySem.W.looks_clsIn KX' hcl) A _ E s k (wpAny_pure q))) rfl KX' halong (IA.type.andThen (PySem.W.looks_subIn KX' SC.ve)) hxC rfl ?_
  have I2 : Inv X [] σ H ⟨h', g, d, t, os⟩ := I.kept (t' := t) kp
  have I3 : Inv X [(h'.objs.size, PySem.W.kxs_mw "ValueError.__init__" e)] σ H ⟨h'.push (PySem.W.kxs_mw "ValueError.__init__" e), g, d, t + 1, os⟩ :=
    ClX.pin_new (t' := t + 1) I2 (fun b u z => Heap.get?_push_of_some _ z) (Nat.le_refl _) (Heap.get?_push_at rfl rfl) (fun v z => nomatch z)
  show wpAny _ _ (callWith p3 (Value.ref h'.objs.size) [] (backTo p3 (starEach [msg] X.env)) []) _ _ _
  rw [hst]
  refine PySem.W.kxs_callWith (i := "ValueError.__init__") (x := e) rfl (Calls.evalArgs_plain ?_)
  show wpAny _ _ (spliced ((false, eval msg X.env) :: backTo p3 (starEach [] X.env))) _ _ _
  refine Calls.spliced_cons (thn (hmsg.run _ _ σ H _ I3 h) fun uv s1 ⟨v, H1, I4, r4, hx4, q4⟩ => ?_)
  refine Calls.spliced_nil ⟨ClX.pin_at I4, ?_⟩
  have hu := ClX.pin_at I4
  obtain ⟨t4, ho4⟩ := exo_at I4.hok hx4
  obtain ⟨hp4, g4, d4, tk4, os4⟩ := s1
  refine (wpAny_call (codeAny_of_tree ?_))
  show wpAny _ X.A.in1 (callAny (.ref h'.objs.size) ⟨[uv], []⟩) _ _ _
  simp only [callAny]
  refine (wpAny_bind (wpAny_load hu ?_))
  simp only [PySem.W.kxs_mw, show (Value.type "method-wrapper" == Value.type "method" || Value.type "method-wrapper" == Value.type "builtin_function_or_method" || Value.type "method-wrapper" == Value.type "method-wrapper") = true by decide, if_true]
  refine (PySem.W.KFB.if_so (by decide) ?_)
  refine wpAny_bind (PySem.W.check_bound_init PySem.F.excBase_ValueError.toExcCallFacts (I4.kIn _ _ hC) ho4 rfl ?_)
  refine (wpAny_bind (wpAny_pure (wpAny_pure ?_)))
  refine ⟨PySem.plainId_quiet PySem.F.excBase_ValueError.init.plain _, codeAny_builtin PySem.F.excBase_ValueError.initEntry ?_⟩
  refine PySem.W.exc_init_tree (cls := .ref C) (t0 := t4) (dv := none) (c2 := .none) (c3 := .none) (b4 := .bool false) ho4 (by show 1 ≤ sizeLine; rw [sizeLine_eq]; omega) fun h5 k5 e5 _ => ?_
  have J := I4.write (t' := tk4) (x := e) (e := e) (o := exo e C none) (by rw [hx4]; exact True.intro) (.inl rfl) k5 ⟨_, e5⟩ (exo_ok e5)
  have eu : upd H1 e (exo e C none) = H1 := by
    funext b
    by_cases hb : b = e
    · rw [hb, upd_same, hx4]
    · rw [upd_ne hb]
  rw [eu] at J
  exact q4 _ (ClX.unpin J)
end
end Mv

namespace Mv
open PySem L2 NdefX
open Classical

/-! ### an exception class's own __init__ -/
/-- what an f-string tells -/
def Fm (v : V) : Prop := (∃ y : Str, v = .str y ∧ y.length ≤ 2000) ∨ ∃ i : Int, v = .int i ∧ i.natAbs.log2 < 1900
/-- the values at the entry -/
def sup0 (a : Addr) (xs : List V) : L2.St := some (.ref a) :: (xs.map some ++ [none])
/-- self's fields are set, in a dict of its own -/
def Set0 (H : Hp) (a C : Addr) (fl : List Str) (xs : List V) (Q : Hp → Prop) : Prop := ∀ H2 d, d ≠ a → H d = none → H2 a = some (exo a C (some d)) → H2 d = some (exd d (fl.zip xs).reverse) → (∀ b, b ≠ a → b ≠ d → H2 b = H b) → Q H2
/-- the promise of such an __init__ -/
def spI (K : PySem.W.Frag) (D : Addr) (fl : List Str) : Sp := fun vs H Q _ => ∃ (a C : Addr) (xs : List V), vs = .ref a :: xs ∧ xs.length = fl.length ∧ (∀ x ∈ xs, Fm x) ∧ H a = some (exo a C none) ∧ OexC K C ∧ SupC K C D ∧
  (∀ f ∈ fl, PySem.W.findIn K (.ref C) f = some none) ∧ Set0 H a C fl xs fun H2 => Q .non H2
def MsgOk (n : Nat) (te : TE) : Prop := ∀ a xs H Q, xs.length = n → (∀ x ∈ xs, Fm x) → (∀ v, Q v H) → te (sup0 a xs) H Q
def RestOk (K : PySem.W.Frag) (fl : List Str) (tr : TS) : Prop := ∀ a C xs H D, xs.length = fl.length → OexC K C → (∀ f ∈ fl, PySem.W.findIn K (.ref C) f = some none) → H a = some (exo a C none) → Set0 H a C fl xs (fun H2 => D.nx (sup0 a xs) H2) → tr D (sup0 a xs) H
section
variable {CX : CXT} {P : Program} {w : World} {K : PySem.W.Frag} {mg : Str → Option Value} {base : Heap} {F : NF} {cc f D : Addr} {fd : FuncData} {k : Nat} {qs fl : List Str} {msg : Expr} {te : TE} {tr : TS} {rest : List Stmt} {p0 p1 p2 p3 p4 : Pos}
theorem fn_sup {pl : Sem Bool} (S : SupD P K F cc f D fd) (SS : SupS F) (NS : NScope (("self" : Str) :: (qs ++ [("__class__" : Str)])) (("self" : Str) :: qs) [("__class__" : Str)] F.scope) (hq : qs.length = fl.length) (hm : mg "super" = none)
    (hbd : F.body = .Expr (.Call (.Attribute (.Call (.Name "super" p0) [] [] p1) "__init__" p2) [msg] [] p3) p4 :: rest) (hte : MsgOk fl.length te) (htr : RestOk K fl tr)
    (hbody : ∀ (A : Around) (outer : List Env) (s : Shared) (H : Hp) (E : XK), PE (ncx CX P w K mg base (("self" : Str) :: (qs ++ [("__class__" : Str)])) F f A outer s H E) msg te ∧ PSs (ncx CX P w K mg base (("self" : Str) :: (qs ++ [("__class__" : Str)])) F f A outer s H E) rest tr)
    (hev : ∀ env : Env, eval (.Call (.Attribute (.Call (.Name "super" p0) [] [] p1) "__init__" p2) [msg] [] p3) env = (do
      let oo ← attributeBase (.Call (.Name "super" p0) [] [] p1) "__init__" env (eval (.Call (.Name "super" p0) [] [] p1) env)
      standAt p2.atName
      let (m1, rest1) ← holding [oo] (getMethod oo "__init__" pl)
      callWith p3 m1 rest1 (backTo p3 (starEach [msg] env)) []))
    (hst : ∀ env : Env, starEach [msg] env = (false, eval msg env) :: starEach [] env) : FnOk P w K mg base CX (k + 1) f fd (("self" : Str) :: qs) (spI K D fl) := by
  refine ⟨fun vs H Q E h => ?_, fun A outer s H args us vs Q E hr e0 hb r hsp => ?_⟩
  · obtain ⟨a, C, xs, rfl, hl, _⟩ := h
    rw [List.length_cons, List.length_cons, hl, hq]
  · obtain ⟨a, C, xs, rfl, hl, hf, hx, T, SC, hno, q⟩ := hsp
    have noLim : s.heap.NoLimit := e0.mod.nolimit.keeps fun b o e => (e0.bs b o e).1
    have inK : K.In s.heap := e0.mod.kin.keeps fun b o e => (e0.bs b o e).1
    obtain ⟨oc, od, osl, dV, kV, doc, pm, an, ct, rfl, lk⟩ := id S.lk
    obtain ⟨cl, cld, csl, hcell⟩ := S.cell
    refine codeAny_call_function hr.depth (inK _ _ lk) rfl NS.co NS.gen rfl (PySem.W.codeRec_of inK S.hcd) (hb _ _ _ _ ?_)
    refine wpAny_newFunctionEnv NS.nocell (fun ⟨n, _⟩ hy => NS.par n (List.of_mem_zip hy).1) (fun h₁ hns hsb => ⟨noLim.fresh _ hsb, ?_⟩) NS.kind
    change codeAny _ _ (.func F.body (envF F f s.heap.objs.size)) _ _
    refine PySem.ks_codeAny_funcAt ?_
    have grown : ∀ b o, s.heap.get? b = some o → h₁.get? b = some o := fun b o e => hsb.extBut b o (Nat.ne_of_lt (Heap.lt_size e)) (Heap.get?_push_of_some _ e)
    have oneCell : ∀ y c, F.cl.lookup y = some c → y = ("__class__" : Str) ∧ c = cc := fun y c e => by
      rw [S.cl] at e
      have := PySem.mem_of_lookup e
      simp at this
      exact this
    have CA : CellsAt F.cl [("__class__" : Str)] [none] s.heap H := by
      refine ⟨rfl, fun y c e => ?_, fun x y c e1 e2 => ?_, fun i y hi => ?_⟩
      · obtain ⟨rfl, rfl⟩ := oneCell y c e
        have hb := e0.mod.kin _ _ hcell
        exact ⟨(e0.bs _ _ hb).2, _, _, (e0.bs _ _ hb).1, rfl⟩
      · rw [(oneCell x c e1).1, (oneCell y c e2).1]
      · cases i with
        | zero =>
          simp at hi
          subst hi
          exact ⟨cc, by rw [S.cl]; simp, fun v z => by simp at z⟩
        | succ i => simp at hi
    have it1 : Inv (ncx CX P w K mg base (("self" : Str) :: (qs ++ [("__class__" : Str)])) F f A outer s H E) [] (startF (("self" : Str) :: (qs ++ [("__class__" : Str)])) (V.ref a :: xs) [none]) H { s with heap := h₁, toks := s.toks + ((("self" : Str) :: qs).zip us).length } :=
      inv_startN NS hr.hd e0 (by rw [List.length_cons, List.length_cons, hl, hq]) r CA hns grown
    have e1 : startF (("self" : Str) :: (qs ++ [("__class__" : Str)])) (V.ref a :: xs) [none] = sup0 a xs := by
      unfold startF sup0
      rw [List.map_cons, List.cons_append]
      congr 1
      congr 1
      rw [show (("self" : Str) :: (qs ++ [("__class__" : Str)])).length - (V.ref a :: xs).length - [(none : Option V)].length = 0 from by
        simp [hl, hq]]
      rfl
    rw [e1] at it1
    obtain ⟨hpe, hps⟩ := hbody A outer s H E
    rw [hbd]
    rw [hbd] at *
    refine PySem.ks_wpAt_execs_cons ?_
    refine sup_stmt (X := ncx CX P w K mg base (("self" : Str) :: (qs ++ [("__class__" : Str)])) F f A outer s H E) S SC T SS rfl hm rfl rfl it1 hx hpe (hev _) (hst _) ?_
    refine hte a xs H _ hl hf fun v => ⟨hx, fun s2 I' => ?_⟩
    refine wpAt_of_wpAny ?_
    refine wpAny_mono (hps.run [] s2 _ H ⟨fun _ H2 => Q .non H2, fun v H2 => Q v H2, fun _ _ => False, fun _ _ => False⟩ I' (htr a C xs H _ hl T hno hx q)) (fun fl s2 ends => ?_) fun e s2 ends => ends
    have told : ∀ {σ2 : L2.St} {H2 : Hp} {v : V} {u : Value}, Inv (ncx CX P w K mg base (("self" : Str) :: (qs ++ [("__class__" : Str)])) F f A outer s H E) [] σ2 H2 s2 → L2.RelV v u → Q v H2 → CE outer P w H s Q u s2 :=
      fun {σ2 H2 v u} it2 same q => ⟨v, H2, it2.os, it2.bare, it2.base, it2.hok, same, q⟩
    cases fl with
    | ret u =>
      obtain ⟨v, σ2, H2, it2, same, q⟩ := ends
      exact told it2 same q
    | next =>
      obtain ⟨σ2, H2, it2, q⟩ := ends
      exact told (v := V.non) (u := Value.none) it2 rfl q
    | brk =>
      obtain ⟨_, _, _, q⟩ := ends
      exact False.elim q
    | cont =>
      obtain ⟨_, _, _, q⟩ := ends
      exact False.elim q
end

/-! ### its message -/
theorem msg_c {n : Nat} {x : Str} : MsgOk n (tC (.str x)) := fun a xs H Q _ _ h => h _
def PcOk (n : Nat) (te : TE) : Prop := ∀ a xs H (Q : VK), xs.length = n → (∀ x ∈ xs, Fm x) → (∀ y : Str, y.length ≤ 4000 → Q (.str y) H) → te (sup0 a xs) H Q
theorem pc_c {n : Nat} {x : Str} (h : x.length ≤ 4000) : PcOk n (tC (.str x)) := fun a xs H Q _ _ q => q x h
theorem sup0_at {a : Addr} {xs : List V} {j : Nat} {x : V} (h : xs[j]? = some x) : (sup0 a xs)[j + 1]? = some (some x) := by
  unfold sup0
  have hj : j < xs.length :=
    (List.getElem?_eq_some_iff.mp h).1
  rw [List.getElem?_cons_succ, List.getElem?_append_left (by rw [List.length_map]; exact hj), List.getElem?_map, h]
  rfl
theorem pc_f {n j : Nat} (h : j < n) : PcOk n (tFmt (tVar (j + 1))) := fun a xs H Q hl hf q => by
  have hj : j < xs.length := by omega
  have hx : xs[j]? = some xs[j] := List.getElem?_eq_getElem hj
  refine ⟨_, sup0_at hx, ?_⟩
  rcases hf _ (List.getElem_mem hj) with ⟨y, e, hy⟩ | ⟨i, e, hi⟩
  · exact .inl ⟨y, e, by rw [sizeLine_eq]; omega, q y (by omega)⟩
  · refine .inr ⟨i, e, by omega, q _ ?_⟩
    have := int_text_length_le (a := i) (k := 1900) (by decide) hi
    show (Str.ofString (toString i)).length ≤ 4000
    rw [ofString_length]
    omega
theorem len_app (x y : Str) : (x ++ y).length = x.length + y.length := by
  show (x.cps ++ y.cps).size = _
  rw [Array.size_append]; rfl
theorem js_ok {n : Nat} : ∀ {ts : List TE}, (∀ t ∈ ts, PcOk n t) → ∀ (a : Addr) (xs : List V) (H : Hp) (Q : Str → Hp → Prop) (acc : Str), xs.length = n → (∀ x ∈ xs, Fm x) → (∀ y, Q y H) → acc.length + 4000 * ts.length ≤ 100000 → tJs ts acc (sup0 a xs) H Q
  | [], _, a, xs, H, Q, acc, _, _, h, _ => h acc
  | t :: ts, ht, a, xs, H, Q, acc, hl, hf, h, hz => by
    refine ht t List.mem_cons_self a xs H _ hl hf fun y hy => ⟨y, rfl, ?_, ?_⟩
    · rw [len_app, sizeLine_eq]
      rw [List.length_cons] at hz
      omega
    · refine js_ok (fun u hu => ht u (List.mem_cons_of_mem _ hu)) a xs H Q (acc ++ y) hl hf h ?_
      rw [len_app]
      rw [List.length_cons] at hz
      omega
theorem msg_js {n : Nat} {ts : List TE} (h : ∀ t ∈ ts, PcOk n t) (hl : ts.length ≤ 20) : MsgOk n (fun σ H Q => tJs ts Str.empty σ H fun out H1 => Q (.str out) H1) :=
  fun a xs H Q h1 h2 q => js_ok h a xs H _ _ h1 h2 (fun y => q _) (by
    show (0 : Nat) + _ ≤ _
    omega)

/-! ### its fields -/
section
variable {K : PySem.W.Frag} {f g : Str}
theorem rest1 : RestOk K [f] (tOst K f (tVar 0) (tVar 1)) := fun a C xs H D hl T hno hx q => by
  obtain ⟨x, rfl⟩ : ∃ x, xs = [x] := by
    cases xs with
    | nil => cases hl
    | cons x xs => cases xs with
      | nil => exact ⟨x, rfl⟩
      | cons y ys => simp at hl
  refine ⟨x, rfl, _, rfl, a, C, rfl, T, hno _ (by simp), .inl ⟨hx, fun dx hd hda => ?_⟩⟩
  refine q _ dx hda hd upd_same (by rw [upd_ne hda, upd_same]; rfl) fun b h1 h2 => by rw [upd_ne h1, upd_ne h2]
theorem rest2 : RestOk K [f, g] (tSeq (tOst K f (tVar 0) (tVar 1)) (tOst K g (tVar 0) (tVar 2))) := fun a C xs H D hl T hno hx q => by
  obtain ⟨x, y, rfl⟩ : ∃ x y, xs = [x, y] := by
    match xs, hl with
    | [x, y], _ => exact ⟨x, y, rfl⟩
  refine ⟨x, rfl, _, rfl, a, C, rfl, T, hno _ (by simp), .inl ⟨hx, fun dx hd hda => ?_⟩⟩
  refine ⟨y, rfl, _, rfl, a, C, rfl, T, hno _ (by simp), .inr ⟨dx, [(f, x)], upd_same, by rw [upd_ne hda, upd_same], (show 1 ≤ 900 by omega), ?_⟩⟩
  refine q _ dx hda hd (by rw [upd_ne (Ne.symm hda), upd_same]) (by rw [upd_same]; rfl) fun b h1 h2 => by rw [upd_ne h2, upd_ne h1, upd_ne h2]
end
end Mv

namespace Mv
open PySem L2 NdefX
open Classical

/-! ### raise X(e, ..), X's own __init__ known -/
def fmD : D → Bool
  | .int i => decide (i.natAbs.log2 < 1900)
  | .str y => decide (y.length ≤ 2000)
  | _ => false
theorem fmD_flat {d : D} (h : fmD d = true) : flat d = true := by cases d <;> first | rfl | (cases h)
theorem fmD_rep {K : PySem.W.Frag} {B : Hp} {d : D} {v : V} (h : fmD d = true) (r : Rep K B d v) : Fm v := by
  cases d <;> first | (cases h; done) | skip
  · rename_i i
    rw [Rep] at r
    exact .inr ⟨i, r, of_decide_eq_true h⟩
  · rename_i y
    rw [Rep] at r
    exact .inl ⟨y, r, of_decide_eq_true h⟩
theorem reps_fm {K : PySem.W.Frag} {B : Hp} : ∀ {ds : List D} {vs : List V}, ds.all fmD = true → Reps K B ds vs → ∀ x ∈ vs, Fm x
  | [], vs, _, h => by rw [Reps] at h; subst h; exact fun x z => nomatch z
  | d :: ds, vs, hd, h => by
    rw [Reps] at h
    obtain ⟨v, us, rfl, h1, h2⟩ := h
    rw [List.all_cons, Bool.and_eq_true] at hd
    intro x hx
    rcases List.mem_cons.mp hx with e | e
    · subst e; exact fmD_rep hd.1 h1
    · exact reps_fm hd.2 h2 x e
theorem repF_append {K : PySem.W.Frag} {B : Hp} : ∀ {fs fs' : List (Str × D)} {gs gs' : List (Str × V)}, RepF K B fs gs → RepF K B fs' gs' → RepF K B (fs ++ fs') (gs ++ gs')
  | [], fs', gs, gs', h, h' => by rw [RepF] at h; subst h; exact h'
  | (n, d) :: fs, fs', gs, gs', h, h' => by
    rw [RepF] at h
    obtain ⟨v, vs, rfl, h1, h2⟩ := h
    rw [List.cons_append, List.cons_append, RepF]
    exact ⟨v, _, rfl, h1, repF_append h2 h'⟩
theorem repF_zip {K : PySem.W.Frag} {B B' : Hp} : ∀ {fl : List Str} {ds : List D} {vs : List V}, ds.all fmD = true → Reps K B ds vs → RepF K B' (fl.zip ds).reverse (fl.zip vs).reverse
  | [], ds, vs, _, _ => by simp only [List.zip_nil_left, List.reverse_nil]; rw [RepF]
  | f :: fl, [], vs, _, h => by rw [Reps] at h; subst h; simp only [List.zip_nil_right, List.reverse_nil]; rw [RepF]
  | f :: fl, d :: ds, vs, hd, h => by
    rw [Reps] at h
    obtain ⟨v, us, rfl, h1, h2⟩ := h
    rw [List.all_cons, Bool.and_eq_true] at hd
    rw [List.zip_cons_cons, List.zip_cons_cons, List.reverse_cons, List.reverse_cons]
    refine repF_append (repF_zip hd.2 h2) ?_
    rw [RepF]
    exact ⟨v, [], rfl, (h1.flat (fmD_flat hd.1)), by rw [RepF]⟩
section
variable {X : Cx} {x : Str} {e : Expr} {es : List Expr} {ta : TA} {p pos pos' : Pos} {C fI D : Addr} {k : Nat} {fd : FuncData} {ps fl : List Str} {sp : Sp} {W : WX} {g : EA}
theorem pmk_oexN (T : OexC X.K C) (iC : PySem.W.findIn X.K (.ref C) "__init__" = some (some (.ref fI))) (tI : PySem.W.typeIn X.K (.ref fI) = some (.type "function"))
    (F1 : FnOk X.prog X.w X.K X.mg X.base (L2N.CX X.prog X.w) k fI fd ps sp) (hr : Room (k + 1) X.A) (hb : Binds X.K fd ps []) (hx : Passes (L2N.CX X.prog X.w) X (fun _ _ _ => False)) (hg : Gl X x) (hm : X.mg x = some (.ref C)) (ha : PA X (e :: es) ta) (hdb : (x == ("__debug__" : Str)) = false := by decide) (he : starEach (e :: es) X.env = (false, eval e X.env) :: starEach es X.env := by rfl) (hpl : (backTo pos (starEach es X.env)).any (·.1) = false := by rfl) :
    L2N.PMk X (.Call (.Name x p) (e :: es) [] pos) (tMkO C sp [] ta) := by
  intro pins s σ H Q it h
  have TT := T
  obtain ⟨n_, q_, N, bs, bm, sn, sub, ab, col, dd, k0, k1, k2, k3, k5, hC, hbm⟩ := TT.cls
  refine wpAny_Call_Name_kw (ld_glob it hg hm ?_ hdb)
  refine PySem.W.callWith_K (h₀ := X.base) it.ok.mod.kin T.kC (thn (ha.run pos pins s σ H _ it h) fun ws t1 ⟨vs, H3, it1, same, hz, q1⟩ => ⟨it1.kIn, ?_⟩) he hpl
  show wpAny _ _ (call (.ref C) ws) _ _ _
  obtain ⟨hp1, g1, dr1, tk1, os1⟩ := t1
  generalize hea : hp1.objs.size + 1 = eo
  have hsz : hp1.objs.size ≤ eo := by omega
  have hn : H3 eo = none := it1.hok.fresh hsz
  have hq := q1 eo hn
  rw [List.append_nil] at hq
  have grow : ∀ b o, hp1.get? b = some o → ((hp1.push (PySem.W.kdv_tup ws)).push (PySem.HandSPX.excO C hp1.objs.size)).get? b = some o := fun b o z => Heap.get?_push_of_some _ (Heap.get?_push_of_some _ z)
  have hat : ((hp1.push (PySem.W.kdv_tup ws)).push (PySem.HandSPX.excO C hp1.objs.size)).get? eo = some (PySem.HandSPX.excO C hp1.objs.size) := by rw [← hea]; heap_get
  have it2 := it1.laid (t' := tk1) (a := eo) (o := exo eo C none) (h' := (hp1.push (PySem.W.kdv_tup ws)).push (PySem.HandSPX.excO C hp1.objs.size)) grow hsz (exo_ok hat)
  have sameE : Vals (V.ref eo :: vs) (Value.ref eo :: ws) := .cons rfl same
  have cnt : (Value.ref eo :: ws ++ []).length = ps.length := by
    rw [List.append_nil, ← sameE.length]
    exact F1.len _ _ _ _ hq
  have few : ws.length ≤ sizeLine := by
    rw [← Paired.length same, sizeLine_eq]
    omega
  have b2 := hb _ (Value.ref eo :: ws) it2.kIn cnt
  rw [List.append_nil] at b2
  refine wpAny_call (PySem.HandSPX.call_own F.excBase_ValueError (fun Y => PySem.HandSPX.refsVE_contains Y bm hbm) (it1.kIn _ _ hC) (PySem.W.looks_findIn it1.kIn iC) (fun self => PySem.W.bind_fn it1.kIn self tI) few ?_)
  rw [hea]
  refine codeAny_mono (F1.run _ X.stack _ _ ⟨Value.ref eo :: ws, []⟩ (Value.ref eo :: ws) _ _ (fun _ _ _ => False) (hr.make C ws []) (it2.env0.make C ws []) b2 sameE hq) fun r s2 end_ => ?_
  cases r with
  | error er => exact hx pins σ _ _ er s2 it2 end_
  | ok fl =>
    cases fl with
    | ret u =>
      obtain ⟨v, H2, os2, bare2, un2, hok2, rv, ev, d, fs, e1, e2, hd1, q2⟩ := end_
      subst ev
      obtain ⟨hp2, gl2, d2, t2, os9⟩ := s2
      obtain ⟨t0, G, itJ, kG, ge, hoe, na⟩ := mk_end0 (d2 := d2) (t2 := t2) it1 hsz grow un2 hok2 os2 bare2 e1 e2 hd1
      exact ⟨rv, eo, _, _, ⟨G, gl2, d2, t2, os9⟩, _, .ref C, some d, rfl, itJ, kG, ge, hoe, ⟨rfl, rfl, fun vs hv => by cases hv; rfl⟩, rfl, rfl, na, rfl, bare2, raises_own T.exC T.tyC, q2⟩
    | next => exact end_.elim
    | brk => exact end_.elim
    | cont => exact end_.elim
def sRaiseI (C : Addr) (fl : List Str) (g : EA) : SM := fun ss => match g ss with
  | .ok ds => if ds.length = fl.length ∧ fl.length ≤ 900 ∧ ds.all fmD = true then .exc ⟨C, some (fl.zip ds).reverse⟩ ss else .no
  | .exc e => .exc e ss
  | .no => .no
theorem s_raiseI (hc : X.calm = true) (tk : L2N.Takes X W) (T : OexC X.K C) (SC : SupC X.K C D) (hno : ∀ f ∈ fl, PySem.W.findIn X.K (.ref C) f = some none) (iC : PySem.W.findIn X.K (.ref C) "__init__" = some (some (.ref fI))) (tI : PySem.W.typeIn X.K (.ref fI) = some (.type "function"))
    (F1 : FnOk X.prog X.w X.K X.mg X.base (L2N.CX X.prog X.w) k fI fd ps (spI X.K D fl)) (hr : Room (k + 1) X.A) (hb : Binds X.K fd ps []) (hx : Passes (L2N.CX X.prog X.w) X (fun _ _ _ => False)) (hg : Gl X x) (hm : X.mg x = some (.ref C)) (ha : PA X (e :: es) (tAh X.K W g)) (hdb : (x == ("__debug__" : Str)) = false := by decide) (he : starEach (e :: es) X.env = (false, eval e X.env) :: starEach es X.env := by rfl) (hpl : (backTo pos (starEach es X.env)).any (·.1) = false := by rfl) :
    PS X (.Raise (some (.Call (.Name x p) (e :: es) [] pos)) none pos') (tS X.K W (sRaiseI C fl g)) := by
  refine ps_w (L2N.ps_raise hc tk (pmk_oexN T iC tI F1 hr hb hx hg hm ha hdb he hpl)) fun E σ H hq => ?_
  obtain ⟨B0, H0, B, ss, fps, si, k⟩ := hq
  refine ⟨B, ss, fps, si.pi, ?_⟩
  unfold sRaiseI at k
  cases hgs : g ss with
  | ok ds =>
    rw [hgs] at k
    dsimp only at k
    by_cases hd : ds.length = fl.length ∧ fl.length ≤ 900 ∧ ds.all fmD = true
    · rw [if_pos hd] at k
      intro B1 vs H1 st rs
      have hl : vs.length = fl.length := by rw [← rs.length, hd.1]
      refine ⟨by omega, fun a ha => ⟨a, C, vs, by rw [List.append_nil], hl, reps_fm hd.2.2 rs, upd_same, T, SC, hno, ?_⟩⟩
      intro H2 d hda hd0 e1 e2 e3
      rw [upd_ne hda] at hd0
      have le : Le H1 (upd (del H2 a) d (.xd (fl.zip vs).reverse)) := fun b o z => by
        have h1 : b ≠ a := fun q => by rw [q, ha] at z; cases z
        have h2 : b ≠ d := fun q => by rw [q, hd0] at z; cases z
        rw [upd_ne h2, del_ne h1, e3 b h1 h2, upd_ne h1]
        exact z
      refine ⟨rfl, d, _, e1, e2, hd0, ?_⟩
      refine k B1 σ _ fps _ _ (si.step (st.trans ⟨Le.refl _, le, st.bh.trans le, fun _ z _ => z⟩)) ⟨rfl, d, _, rfl, upd_same, repF_zip hd.2.2 rs⟩
    · rw [if_neg hd] at k; exact k.elim
  | exc e => rw [hgs] at k; exact fun B' cls dd H' st ex => k B' σ H' fps cls dd (si.step st) ex
  | no => rw [hgs] at k; exact k.elim
end

/-! ### e.f of the exception at hand -/
noncomputable def eXf (K : PySem.W.Frag) (a : Ha) (ex : Exo) (n : Str) (f : EB) : EB := fun ss => if L2.ExcC K ex.C ∧ PySem.W.findIn K (.ref ex.C) n = some none then (match f ss with
  | .ok (0, .exd a' b' fs) => if a' = a.1 ∧ b' = a.2 ∧ ex.fs.isSome = true then (match fs.lookup n with
    | some d => .ok (0, d)
    | none => .no) else .no
  | .ok _ => .no
  | .exc e => .exc e
  | .no => .no) else .no
theorem repF_look {K : PySem.W.Frag} {B : Hp} {n : Str} {d : D} : ∀ {fs : List (Str × D)} {gs : List (Str × V)}, RepF K B fs gs → fs.lookup n = some d → ∃ v, gs.lookup n = some v ∧ Rep K B d v
  | [], gs, h, e => by cases e
  | (m, d') :: fs, gs, h, e => by
    rw [RepF] at h
    obtain ⟨v, vs, rfl, h1, h2⟩ := h
    rw [lookup_put]
    by_cases hn : n = m
    · subst hn
      simp [List.lookup] at e
      subst e
      rw [if_pos rfl]
      exact ⟨v, rfl, h1⟩
    · have hb : (n == m) = false := by simpa using hn
      simp only [List.lookup, hb] at e
      rw [if_neg hn]
      exact repF_look h2 e
section
variable {X : Cx} {W : WX} {e : Expr} {pos : Pos} {f : EB} {a : Ha} {ex : Exo} {n : Str}
theorem b_xf (hh : HotE X a ex) (he : PE X e (tB X.K W f)) (hb : attributeBase e n X.env (eval e X.env) = eval e X.env := by rfl) : PE X (.Attribute e n pos) (tB X.K W (eXf X.K a ex n f)) := by
  refine (⟨fun pins s σ H Q I hq => ?_⟩)
  obtain ⟨B, ss, fps, pi, k⟩ := hq
  unfold eXf at k
  by_cases hn : L2.ExcC X.K ex.C ∧ PySem.W.findIn X.K (.ref ex.C) n = some none
  · rw [if_pos hn] at k
    have key : (tB X.K W f) σ H (fun v H1 => ∃ (gs : List (Str × V)) (v' : V), v = .ref a.1 ∧ ex.fs.isSome = true ∧ H1 a.2 = some (.xd gs) ∧ gs.lookup n = some v' ∧ Q v' H1) := by
      refine ⟨B, ss, fps, pi, ?_⟩
      cases h : f ss with
      | exc e => simp only [h] at k; exact k
      | no => simp only [h] at k
      | ok r =>
        obtain ⟨m, d⟩ := r
        cases m with
        | succ m => simp only [h] at k
        | zero =>
          cases d with
          | exd a' b' fs =>
            simp only [h] at k
            by_cases hc : a' = a.1 ∧ b' = a.2 ∧ ex.fs.isSome = true
            · rw [if_pos hc] at k
              obtain ⟨rfl, rfl, hs⟩ := hc
              cases hl : fs.lookup n with
              | none => rw [hl] at k; exact k.elim
              | some d =>
                rw [hl] at k
                intro B1 v H1 s1 bw
                have r := bw.rep
                rw [Rep] at r
                obtain ⟨rfl, gs, h2, h3⟩ := r
                obtain ⟨v', h4, h5⟩ := repF_look h3 hl
                exact ⟨gs, v', rfl, hs, s1.bh _ _ h2, h4, k B1 v' H1 s1 (bw0 h5)⟩
            · rw [if_neg hc] at k; exact k.elim
          | _ => simp only [h] at k
    refine L2.attr_of hb (thn (he.run pins s σ H _ I key) fun u s1 hx => ?_)
    obtain ⟨v, H1, I1, rv, gs, v', rfl, hs, ea, l, q⟩ := hx
    obtain rfl : u = Value.ref a.1 := rv
    obtain ⟨oe, hp, ⟨_, vs, hv, _⟩, ho⟩ := hh.pin
    obtain ⟨hget, _⟩ := I1.pin (a.1, oe) (List.mem_append.mpr (.inl hp))
    obtain ⟨mA, hns, hr⟩ := (show ObjOk X.prog X.w H1 s1.heap a.2 (.xd gs) from I1.hok _ _ ea)
    obtain ⟨od, ho', hl⟩ := lookIn_ns hns
    obtain ⟨u, hu, ru⟩ := RelO.some_of (v := v') (o := mA n) (by rw [← l]; exact hr n)
    have hdd : oe.dict = some a.2 := by
      rw [ho.dct]
      cases hf : ex.fs with
      | none => rw [hf] at hs; cases hs
      | some fs => rfl
    have J : PySem.W.InstAt s1.heap a.1 oe ex.C (some od) := ⟨hget, ho.cls, by unfold PySem.W.notCls; rw [hv] <;> rfl, by rw [hdd]; exact ho'⟩
    exact PySem.HandSPX.exc_get I1.kIn J hn.1.hg hn.1.hk hn.1.hs (PySem.W.findObj_own hn.1.hd hn.2 rfl (by rw [hl, hu])) (handed_of ru) ⟨v', H1, I1.tok _, ru, q⟩
  · rw [if_neg hn] at k; exact k.elim
end

/-! ### f(..) in an except suite: a fresh answer -/
section
variable {X : Cx} {W : WX} {e : Expr} {es : List Expr} {pos p : Pos} {g1 : EA} {m : Ha → Exo → FM} {k : Nat} {f : Addr} {fd : FuncData} {ps : List Str} {x : Str}
theorem m_callX {a0 : Ha} {e0 : Exo} (F : FnX X.prog X.w X.K X.mg X.base (L2N.CX X.prog X.w) k f fd ps (spX X.K m)) (tk : L2N.Takes X W) (hh : HotE X a0 e0) (hr : L2H.RoomH k X.A) (hg : Gl X x) (hm : X.mg x = some (.ref f)) (hk : PySem.W.keepIn X.K (.ref f) = true) (hb : Binds X.K fd ps [])
    (ha : PA X (e :: es) (tA X.K W g1)) (hdb : (x == ("__debug__" : Str)) = false := by decide) (he : starEach (e :: es) X.env = (false, eval e X.env) :: starEach es X.env := by rfl) (hpl : (backTo pos (starEach es X.env)).any (·.1) = false := by rfl) :
    PE X (.Call (.Name x p) (e :: es) [] pos) (tM X.K W (eFn (m a0 e0) g1)) := by
  obtain ⟨oe, hp, hot, ho⟩ := hh.pin
  refine pe_w (pe_callX F hr hot hp hg hm hk hb (fun σ => L2N.passAt tk σ) ha hdb he hpl) fun σ H Q hq => ?_
  obtain ⟨B, ss, fps, pi, k⟩ := hq
  refine ⟨B, ss, fps, pi, ?_⟩
  unfold eFn at k
  cases h1 : g1 ss with
  | ok ds =>
    simp only [h1] at k
    intro B1 vs H1 s1 rs
    refine ⟨e0, a0.2, ho, B1, ds, s1.bh, rs, ?_⟩
    cases h2 : m a0 e0 ds with
    | ok r =>
      obtain ⟨n, d⟩ := r
      simp only [h2] at k
      exact fun B' v H' fp st nw => k B' v H' fp (s1.trans st) ⟨nw.ow, nw.nd, fun a ha => ⟨(nw.fr a ha).1, s1.hh.back (nw.fr a ha).2⟩⟩
    | exc e => simp only [h2] at k; exact fun B' cls dd H' st ex => k B' cls dd H' (s1.trans st) ex
    | no => simp only [h2] at k
  | exc e => simp only [h1] at k; exact k
  | no => simp only [h1] at k
end

/-! ### lists of truth values compared -/
def blsOf : List D → Option (List Bool)
  | [] => some []
  | .bl b :: r => (blsOf r).map fun l => b :: l
  | _ => none
theorem blsOf_eq : ∀ {ds : List D} {bs : List Bool}, blsOf ds = some bs → ds = bs.map D.bl
  | [], bs, h => by cases h; rfl
  | d :: r, bs, h => by
    cases d with
    | bl b =>
      rw [blsOf] at h
      cases hr : blsOf r with
      | none => rw [hr] at h; cases h
      | some l => rw [hr] at h; cases h; rw [blsOf_eq hr]; rfl
    | _ => simp [blsOf] at h
theorem blsOf_map : ∀ bs : List Bool, blsOf (bs.map D.bl) = some bs
  | [] => rfl
  | b :: bs => by rw [List.map_cons, blsOf, blsOf_map bs]; rfl
theorem dps_bl {K : PySem.W.Frag} {H : Hp} : ∀ {bs : List Bool} {vs : List V}, Reps K H (bs.map D.bl) vs → DpAll K H vs (bs.map PyData.bool)
  | [], vs, h => by rw [List.map_nil, Reps] at h; subst h; exact .nil
  | b :: bs, vs, h => by
    rw [List.map_cons, Reps] at h
    obtain ⟨v, us, rfl, h1, h2⟩ := h
    rw [Rep] at h1
    subst h1
    exact .cons (.bl b) (dps_bl h2)
theorem lay_bl : ∀ bs : List Bool, PyData.canLayAll0 (bs.map PyData.bool) = true
  | [] => by rw [List.map_nil, PyData.canLayAll0]
  | b :: bs => by rw [List.map_cons, PyData.canLayAll0, PyData.canLay0, lay_bl bs]; rfl
theorem dep_bl : ∀ bs : List Bool, PyData.depthAll (bs.map PyData.bool) = 0
  | [] => by rw [List.map_nil, PyData.depthAll]
  | b :: bs => by rw [List.map_cons, PyData.depthAll, PyData.depth, dep_bl bs]; rfl
theorem eqv_bl : ∀ bs cs : List Bool, PyData.eqvAll (bs.map PyData.bool) (cs.map PyData.bool) = decide (bs = cs)
  | [], [] =>
    by simp [PyData.eqvAll]
  | [], c :: cs => by simp [PyData.eqvAll]
  | b :: bs, [] => by simp [PyData.eqvAll]
  | b :: bs, c :: cs => by
    rw [List.map_cons, List.map_cons, PyData.eqvAll, eqv_bl bs cs]
    cases b <;> cases c <;> simp [PyData.eqv]
theorem shaped_bl (bs : List Bool) : SeqAt.shaped (.list (bs.map PyData.bool)) = true := by
  unfold SeqAt.shaped
  rw [Bool.and_eq_true]
  refine ⟨by rw [PyData.canLay0]; exact lay_bl bs, decide_eq_true ?_⟩
  rw [PyData.depth, dep_bl]
  decide
def gNeL : D → D → Option D
  | .lst ds, .lst es => (match blsOf ds, blsOf es with
    | some bs, some cs => some (.bl (!decide (bs = cs)))
    | _, _ => none)
  | _, _ => none
theorem ok_neL {K : PySem.W.Frag} : OpOk K (rNeA K) gNeL := by
  intro H da db d x y Q ra rb e k
  cases da <;> first | (cases e; done) | skip
  cases db <;> first | (cases e; done) | skip
  rename_i ds es
  unfold gNeL at e
  dsimp only at e
  cases h1 : blsOf ds with
  | none => simp only [h1] at e; cases e
  | some bs =>
    cases h2 : blsOf es with
    | none => simp only [h1, h2] at e; cases e
    | some cs =>
      simp only [h1, h2] at e
      cases e
      rw [blsOf_eq h1, Rep] at ra
      rw [blsOf_eq h2, Rep] at rb
      obtain ⟨a, xs, rfl, ha, rs⟩ := ra
      obtain ⟨b, ys, rfl, hb, rt⟩ := rb
      refine .inr ⟨_, _, .lst (SqL.of ha) (dps_bl rs), .lst (SqL.of hb) (dps_bl rt), shaped_bl bs, shaped_bl cs, ?_⟩
      rw [PyData.eqv, eqv_bl]
      exact k _ fun _ => rep_bl
end Mv

namespace Mv
open PySem L2 NdefX
open Classical

/-! ### for over range while an exception is handled -/
section
variable {X : Cx} {W : WX} {tg it a e : Expr} {pos p : Pos} {fi : EI} {g : TG} {g1 : EA} {tgt : Tgt} {F : SM} {body : List Stmt}
theorem hot_c {a0 : Ha} {e0 : Exo} (h : HotE X a0 e0) : L2H.HotC X := let ⟨oe, hp, hot, _⟩ := h.pin; ⟨_, hot, hp⟩
theorem pih_w {t u : TI} (h : L2H.PIH X tg it t) (k : ∀ σ H R, u σ H R → t σ H R) : L2H.PIH X tg it u := ⟨fun pins s σ H R I q => h.run pins s σ H R I (k σ H R q)⟩
theorem i_range1H (hg : Gl X "range") (hm : X.mg "range" = none) (ha : PA X [a] (tAh X.K W g1)) (hs : starEach [a] X.env = [(false, eval a X.env)] := by rfl) : L2H.PIH X tg (.Call (.Name "range" p) [a] [] pos) (tI X.K W (iRg1 g1)) := by
  refine pih_w (L2H.pi_range1H hg hm ha hs) fun σ H R hq => ?_
  obtain ⟨B, ss, fps, pi, k⟩ := hq
  refine ⟨B, ss, fps, pi, ?_⟩
  unfold iRg1 at k
  cases h : g1 ss with
  | ok ds =>
    rw [h] at k
    match ds, k with
    | [], k => exact k.elim
    | [.int j], k =>
      intro B1 vs H1 s1 rs
      rw [reps1 rs]
      cases hj : smallI j with
      | false => simp only [hj] at k; exact absurd k (by simp)
      | true =>
        simp only [hj, if_true] at k
        obtain ⟨h1, h2⟩ := smallI_of hj
        exact ⟨j, rfl, h1, h2, k B1 H1 _ s1 walk_rng⟩
    | [.non], k => exact k.elim
    | [.bl _], k => exact k.elim
    | [.str _], k => exact k.elim
    | [.lst _], k => exact k.elim
    | [.tup _], k => exact k.elim
    | [.rdl _], k => exact k.elim
    | [.ins _ _], k => exact k.elim
    | [.exo _], k => exact k.elim
    | [.exd _ _ _], k => exact k.elim
    | d :: e :: r, k => cases d <;> exact k.elim
  | exc e => rw [h] at k; exact k
  | no => rw [h] at k; exact k
theorem for_of (ht : TgOk X.K g tgt) {E : Ends} {σ : L2.St} {H : Hp} (hq : tS X.K W (sFor fi tgt F) E σ H) : tFor (tI X.K W fi) g (tS X.K W F) E σ H := by
  obtain ⟨B0, H0, B, ss, fps, si, k⟩ := tS_get hq
  refine ⟨B, ss, fps, si.pi, ?_⟩
  unfold sFor at k
  cases h : fi ss with
  | ok ds =>
    rw [h] at k
    intro B1 H1 J s1 wk
    have si1 := si.step s1
    refine ⟨fun i m σ' H' => m = ds.length - i ∧ i ≤ ds.length ∧ ∃ B' ss' fps', SI X.K B1 H0 B' σ' H' ss' fps' ∧ Post X.K W B0 H0 E (loop (stepF tgt F) (ds.drop i) ss'), ⟨ds.length, by simp, Nat.zero_le _, B1, ss, fps, si1.low, by rw [List.drop_zero]; exact k⟩, ?_⟩
    rintro i m σ' H' ⟨rfl, hi, B', ss', fps', si', q⟩
    obtain ⟨w1, w2, w3⟩ := wk i B' H' si'.st.bb si'.st.bh
    by_cases hlt : i < ds.length
    · refine .inr ⟨w1 hlt, fun σ2 H2 => ∃ B2 ss2 fps2, SI X.K B1 H0 B2 σ2 H2 ss2 fps2 ∧ Post X.K W B0 H0 E (loop (stepF tgt F) (ds.drop (i + 1)) ss2), fun σ2 H2 ⟨B2, ss2, fps2, si2, q2⟩ => ⟨ds.length - (i + 1), by omega, rfl, hlt, B2, ss2, fps2, si2, q2⟩, fun x H2 hy => ?_⟩
      have hd : ds.drop i = ds[i] :: ds.drop (i + 1) := List.drop_eq_getElem_cons hlt
      obtain ⟨B2, st2, rx⟩ := w3 x H2 ds[i] (List.getElem?_eq_getElem hlt) hy
      rw [hd] at q
      unfold loop at q
      unfold stepF at q
      cases ht1 : tgt ds[i] ss' with
      | none => simp only [ht1] at q; exact q.elim
      | some s1' =>
        simp only [ht1] at q
        have si2 := si'.step st2
        refine ht B2 σ' H2 ss' fps' ds[i] x s1' _ si2.pi rx ht1 fun σ3 up _ => ?_
        obtain ⟨fps3, si3⟩ := up B1 H0 si2
        refine tS_mk si3 ?_
        cases hb1 : F s1' with
        | nx s4 => simp only [hb1] at q; exact fun B4 σ4 H4 fps4 si4 => ⟨B4, s4, fps4, si4, q⟩
        | ct s4 => simp only [hb1] at q; exact fun B4 σ4 H4 fps4 si4 => ⟨B4, s4, fps4, si4, q⟩
        | bk s4 => simp only [hb1] at q; exact fun B4 σ4 H4 fps4 si4 => q B4 σ4 H4 fps4 (si4.up si1.st)
        | rt n d => simp only [hb1] at q; exact fun B4 v4 H4 fp4 st4 nw => q B4 v4 H4 fp4 (si1.st.up st4) nw
        | exc e s4 => simp only [hb1] at q; exact fun B4 σ4 H4 fps4 cls dd si4 ex => q B4 σ4 H4 fps4 cls dd (si4.up si1.st) ex
        | ru d s4 => simp only [hb1] at q; exact fun B4 v4 σ4 H4 fps4 si4 r4 => q B4 v4 σ4 H4 fps4 (si4.up si1.st) r4
        | no => simp only [hb1] at q; exact q.elim
    · have e : i = ds.length := by omega
      refine .inl ⟨w2 (Nat.le_of_eq e.symm), ?_⟩
      rw [List.drop_eq_nil_of_le (Nat.le_of_eq e.symm)] at q
      exact q B' σ' H' fps' (si'.up si1.st)
  | exc e => rw [h] at k; exact fun B' cls dd H' st ex => k B' σ H' fps cls dd (si.step st) ex
  | no => rw [h] at k; exact k

theorem s_forH (hp : PassesOwn (model X.prog X.w) X.A X.env X.xe) (hc : L2H.HotC X) (hi : L2H.PIH X tg it (tI X.K W fi)) (hg : PG X tg g) (ht : TgOk X.K g tgt) (hb : PSs X body (tS X.K W F)) (hs : ∀ x, foldedSetIterable it X.env x = pure x := by intro _; rfl) :
    PS X (.For tg it body [] pos) (tS X.K W (sFor fi tgt F)) := ps_w (L2H.ps_forH hp hc hi hg hb hs) fun E σ H hq => for_of ht hq
end
section
variable {P : Program} {w : World} {K : PySem.W.Frag} {mg : Str → Option Value} {base : Heap} {N : List Str} {qual : Str} {scope : Scope} {f : Addr} {cdv : Value} {A : Around} {outer : List Env} {s : Shared} {H : Hp} {E : XK} {p : Addr × Obj}
abbrev cxHN (P : Program) (w : World) (K : PySem.W.Frag) (mg : Str → Option Value) (base : Heap) (N : List Str) (qual : Str) (scope : Scope) (f : Addr) (cdv : Value) (A : Around) (outer : List Env) (s : Shared) (H : Hp) (E : XK) (p : Addr × Obj) : Cx := L2H.cxH (L2N.CX P w) P w K mg base N qual scope f cdv A outer s H E p
theorem passes_h : PassesOwn (model (cxHN P w K mg base N qual scope f cdv A outer s H E p).prog (cxHN P w K mg base N qual scope f cdv A outer s H E p).w) (cxHN P w K mg base N qual scope f cdv A outer s H E p).A (cxHN P w K mg base N qual scope f cdv A outer s H E p).env (cxHN P w K mg base N qual scope f cdv A outer s H E p).xe := passes_of rfl
theorem takes_h : L2N.Takes (cxHN P w K mg base N qual scope f cdv A outer s H E p) (fun cls d _ H => E cls d H) := L2N.takes_of rfl rfl rfl rfl
end

/-! ### a list comprehension while an exception is handled -/
/-- the block's context, the handled exception known in it -/
abbrev blkH (X : Cx) (s : Shared) (H : Hp) (scope : Scope) (ce : Env) (fp : List Addr) : Cx := (X.blk s H scope ce fp).tr ([] ++ X.pn) (fun _ _ => False)
section
variable {X : Cx}
theorem lc_coreH {pins : List (Addr × Obj)} {s : Shared} {σ : L2.St} {H : Hp} {Q : VK} {elt tg iter : Expr} {ifs : List Expr} {scope : Scope} {own : List (Str × Nat)} {pos pos' : Pos} {wi : TI} {g : TG} {tt : TT} {te : TE} {use : Option (Value → Sem Unit)} {Qf : Value → Shared → Prop}
    (hot : L2H.HotC X) (hN : X.N.Nodup) (I : Inv X pins σ H s) (hi : L2H.PIH X tg iter wi) (ok : BlkOk X.N X.env.scope scope own)
    (hg : ∀ (s : Shared) (H : Hp) (C : Addr) (cl : List (Str × Addr)) (fp : List Addr), PG (blkH X s H scope (compEnvC scope cl C X.env) fp) tg g) (ht : ∀ (s : Shared) (H : Hp) (C : Addr) (cl : List (Str × Addr)) (fp : List Addr), PTs (blkH X s H scope (compEnvC scope cl C X.env) fp) ifs tt)
    (he : ∀ (s : Shared) (H : Hp) (C : Addr) (cl : List (Str × Addr)) (fp : List Addr), PE (blkH X s H scope (compEnvC scope cl C X.env) fp) elt te) (hs : ∀ x, foldedSetIterable iter X.env x = pure x) (h : tLc wi g tt te (own.map (·.2)) σ H Q)
    (back : ∀ D C s9 m H9, Inv X pins σ H9 s9 → Q (.ref D) H9 → s9.heap.Ns C m → FpOk X pins H9 C → compPost (model X.prog X.w) X.A X.xe use Qf (.ref D) C (.ok .next) s9) :
    wpAny (model X.prog X.w) X.A
      (comprehension (.ListComp elt [⟨tg, iter, ifs, 0⟩] scope pos) scope X.env pos' (newList []) false (eval iter X.env) use) Qf X.xe s := by
  have free : ∀ y ∈ scope.names, y.2 = .free → ∃ c, X.env.cells.lookup y.1 = some c := fun y hy e => (ok.free y hy e).elim (fun k => I.ok.has _ (.inl k)) fun k => I.ok.has _ (.inr k)
  refine wpAny_comprehension_free (use := use) rfl hs (closure_ok free) ok.kind (fun y hy e => by rw [ok.uniq y hy, e]) (thn (hi.run pins s σ H _ I h) fun xv sA hx => thn hx fun itv sB hB => ?_)
  obtain ⟨it, fp, tn, J, HB, rfl, IB, T, stB, fB, q⟩ := hB
  refine (wpAny_newObj_type (newEnv_comp ?_) (by show 0 ≤ sizeLine; decide))
  generalize eD : sB.heap.objs.size = Da
  have nD : HB Da = none := IB.hok.fresh (Nat.le_of_eq eD)
  obtain ⟨Wt, ⟨m0, w0⟩, turn⟩ := q Da nD
  generalize eC : ({ sB with heap := sB.heap.push { cls := .type "list", data := .seq ([] : List Value).toArray } } : Shared) = sC
  have hC : sC.heap = sB.heap.push { cls := .type "list", data := .seq ([] : List Value).toArray } := by rw [← eC]
  have IC : Inv X pins σ (upd HB Da (.lst [])) sC := by
    rw [← eC]
    refine IB.laid (t' := sB.toks) (fun b o e => Heap.get?_push_of_some _ e) (Nat.le_of_eq eD) ⟨Nat.zero_le _, [], 0, .nil, ?_⟩
    rw [← eD]
    exact (Heap.get?_push_size _ rfl)
  have fC : ∀ b ∈ fp, FpOk X pins (upd HB Da (.lst [])) b ∧ b < sC.heap.objs.size := fun b hb => by
    obtain ⟨o, e, _⟩ := T.obj _ _ stB b hb
    have lt := Heap.lt_size e
    exact ⟨⟨by rw [upd_ne (by rw [← eD]; exact Nat.ne_of_lt lt)]; exact (fB b hb).1, (fB b hb).2⟩, by rw [hC, Heap.size_push]; exact Nat.lt_succ_of_lt lt⟩
  have stC : tn 0 sC.heap := T.keep _ _ _ stB fun b _ o e => by rw [hC]; exact Heap.get?_push_of_some _ e
  have IE0 := block_start IC ok hN fC
  have pg := hg sC (upd HB Da (.lst [])) sC.heap.objs.size (cellsFrom (sC.heap.objs.size + 1) scope.names (cloFrom X.env.cells scope.names [])) fp
  have pt := ht sC (upd HB Da (.lst [])) sC.heap.objs.size (cellsFrom (sC.heap.objs.size + 1) scope.names (cloFrom X.env.cells scope.names [])) fp
  have pe := he sC (upd HB Da (.lst [])) sC.heap.objs.size (cellsFrom (sC.heap.objs.size + 1) scope.names (cloFrom X.env.cells scope.names [])) fp
  have nfp : ∀ b ∈ fp, (upd HB Da (.lst [])) b = none := fun b hb => (fC b hb).1.1
  show codeAny _ _ (.compStart (.ListComp elt [⟨tg, iter, ifs, 0⟩] scope pos) 0 (.ref it) (.ref Da) (compEnvC scope (cellsFrom (sC.heap.objs.size + 1) scope.names (cloFrom X.env.cells scope.names [])) sC.heap.objs.size X.env)) (compPost (model X.prog X.w) X.A X.xe use Qf (.ref Da) sC.heap.objs.size) { sC with heap := pushCells (sC.heap.push { cls := .type "dict", data := .dict #[] }) scope.names }
  generalize ece : compEnvC scope (cellsFrom (sC.heap.objs.size + 1) scope.names (cloFrom X.env.cells scope.names [])) sC.heap.objs.size X.env = ce at IE0 pg pt pe ⊢
  have cL : ce.locals = sC.heap.objs.size := by subst ece; rfl
  generalize eH : upd HB Da (.lst []) = HC at IC IE0 pg pt pe w0 nfp fC
  have pinX : ∀ p ∈ X.pn, sC.heap.get? p.1 = some p.2 ∧ HC p.1 = none ∧ p.1 ≠ ce.locals ∧ p.1 ∉ frs X.stack ∧ ∀ v, p.2.data ≠ .cell v := fun p hp => by
    have z9 := IC.pin p (List.mem_append_left _ hp)
    exact ⟨z9.1, z9.2.1, by rw [cL]; exact Nat.ne_of_lt (Heap.lt_size z9.1), fun m => (List.mem_cons.mp (IC.stkSub p.1 m)).elim z9.2.2.1 z9.2.2.2.1, z9.2.2.2.2⟩
  generalize eE : ({ sC with heap := pushCells (sC.heap.push { cls := .type "dict", data := .dict #[] }) scope.names } : Shared) = sE at IE0 ⊢
  have kE : ∀ b o, sC.heap.get? b = some o → sE.heap.get? b = some o := fun b o e => by rw [← eE]; exact pushCells_keeps _ _ _ _ (Heap.get?_push_of_some _ e)
  have IE : Inv (blkH X sC HC scope ce fp) [] (wipe σ (own.map (·.2))) HC sE := (IE0.pins_of (pins' := X.pn) fun p hp => ⟨kE _ _ (pinX p hp).1, (pinX p hp).2⟩).toTry _
  have hotB : L2H.HotC (blkH X sC HC scope ce fp) := let ⟨p, h1, h2⟩ := hot; ⟨p, h1, h2⟩
  have stE : tn 0 sE.heap := T.keep _ _ _ stC fun b _ o e => kE b o e
  have stat : ∀ {σ' : L2.St} {H9 : Hp} {s9 : Shared}, Inv (blkH X sC HC scope ce fp) [] σ' H9 s9 → (∀ b ∈ fp, H9 b = none) → tn 0 sE.heap → ∀ b ∈ fp, FpOk (blkH X sC HC scope ce fp) [] H9 b := fun {σ' H9 s9} it9 hn _ b hb =>
    ⟨hn b hb, (it9.ok.exf b hb).1, it9.ok.exfs b hb, .inl hb, fun x c e => (it9.ok.exf b hb).2 x c e, fun p hp e => by
      have hp' : p ∈ X.pn := by
        have hp : p ∈ ([] ++ X.pn) ++ [] := hp
        rw [List.append_nil] at hp
        exact hp
      exact (fC b hb).1.2.2.2.2.2 p (List.mem_append_left _ hp') e⟩
  have main : codeAny (model X.prog X.w) X.A (.compLoop (.ListComp elt [⟨tg, iter, ifs, 0⟩] scope pos) 0 (.ref it) (.ref Da) ce) (compPost (model X.prog X.w) X.A X.xe use Qf (.ref Da) sC.heap.objs.size) sE := by
    refine compLoop_any (fun n s9 => ∃ i H9, Inv (blkH X sC HC scope ce fp) [] (wipe σ (own.map (·.2))) H9 s9 ∧ tn i s9.heap ∧ (∀ b ∈ fp, H9 b = none) ∧ Wt i n H9) ?_ m0 ⟨0, HC, IE, stE, nfp, w0⟩
    rintro n s1 ⟨i, H1, I1, st1, n1, w1⟩
    rcases turn i n H1 w1 with ⟨stop, done⟩ | ⟨go, Nx, hNx, step⟩
    · refine thnF (T.done (blkH X sC HC scope ce fp) rfl rfl rfl hotB i [] s1 _ H1 (fun _ _ => False) I1 (stat I1 n1 stE) st1 stop) fun r s2 ⟨hr, I2⟩ => ?_
      subst hr
      have IX : Inv X pins σ H1 s2 := IC.call' (ch := fp) I2.os I2.base I2.hok I2.bare fun b hb => ⟨(fC b hb).1.2.2.2.1, (fC b hb).1.2.1, (fC b hb).1.2.2.2.2.1, (fC b hb).1.2.2.2.2.2⟩
      have nC : H1 sC.heap.objs.size = none := by
        have z9 : H1 ce.locals = none := I2.free
        rw [cL] at z9
        exact z9
      obtain ⟨m, hn, _⟩ := I2.loc
      have hn : s2.heap.Ns ce.locals m := hn
      rw [cL] at hn
      exact back Da sC.heap.objs.size s2 m H1 IX done hn (IC.fpOk (Nat.le_refl _) nC)
    · refine thnF (T.item (blkH X sC HC scope ce fp) rfl rfl rfl hotB i [] s1 _ H1 (fun _ _ => False) I1 (stat I1 n1 stE) st1 go) fun r s2 ⟨u, hr, h2⟩ => ?_
      subst hr
      refine thnF h2 fun _ s3 ⟨x, H3, I3, r3, y3, st3, n3⟩ => ?_
      have I3' := I3.pinned (stat I3 n3 stE) (T.obj _ _ st3)
      refine thnF (pg.run _ s3 _ H3 x u _ I3' r3 (step x H3 y3)) fun _ s4 ⟨σ4, H4, I4, hw4, q4⟩ => ?_
      refine thnF (pt.run _ s4 σ4 H4 _ I4 q4) fun b s5 ⟨H5, I5, q5⟩ => ?_
      have fin : ∀ {s9 : Shared} {H9 : Hp}, Inv (blkH X sC HC scope ce fp) ([] ++ pinsAt fp s3.heap) σ4 H9 s9 → Nx H9 → ∃ m, m < n ∧ ∃ i H9, Inv (blkH X sC HC scope ce fp) [] (wipe σ (own.map (·.2))) H9 s9 ∧ tn i s9.heap ∧ (∀ b ∈ fp, H9 b = none) ∧ Wt i m H9 := fun {s9 H9} it9 nx9 => by
        obtain ⟨m9, hm, w9⟩ := hNx H9 nx9
        have held : ∀ b ∈ fp, ∀ o, s3.heap.get? b = some o → s9.heap.get? b = some o ∧ H9 b = none := fun b hb o e =>
          let z9 := it9.pin (b, o) (List.mem_append_right _ (List.mem_append_right _ (mem_pinsAt hb e)))
          ⟨z9.1, z9.2.1⟩
        have hl : (wipe σ (own.map (·.2))).length = σ4.length := by rw [← hw4, wipe_length]
        refine ⟨m9, hm, i + 1, H9, (it9.unpinned (pins := [])).weak hl (fun j v e => ?_), T.keep _ _ _ st3 fun b hb o e => (held b hb o e).1, fun b hb => ?_, w9⟩
        · rw [← hw4] at e
          exact (wipe_some e).1
        · obtain ⟨o, e, _⟩ := T.obj _ _ st3 b hb
          exact (held b hb o e).2
      cases b with
      | false =>
        simp only [Bool.false_eq_true, if_false] at q5 ⊢
        exact fin I5 q5
      | true =>
        simp only [if_true] at q5 ⊢
        refine thnF (pe.run _ s5 σ4 H5 _ I5 q5) fun z9 s6 ⟨yv, H6, I6, r6, acc, hD6, hz6, nx9⟩ => ?_
        exact app_ok (X := blkH X sC HC scope ce fp) I6 hD6 hz6 r6 fun s7 I7 => fin I7 nx9
  exact codeAny_compStart_list main (T.self X.A 0 _ _ _ stE main)
theorem ps_setLcH {i : Nat} {y : Str} {py : Pos} {elt tg iter : Expr} {ifs : List Expr} {scope : Scope} {own : List (Str × Nat)} {pos spos : Pos} {wi : TI} {g : TG} {tt : TT} {te : TE} (hot : L2H.HotC X) (hN : X.N.Nodup) (hy : X.N[i]? = some y) (hyl : X.env.scope.names.lookup y = some .local)
    (hsw : swapsWith (.ListComp elt [⟨tg, iter, ifs, 0⟩] scope pos) (some (.Name y py)) spos.line X.env = pure true) (hi : L2H.PIH X tg iter wi) (ok : BlkOk X.N X.env.scope scope own)
    (hg : ∀ (s : Shared) (H : Hp) (C : Addr) (cl : List (Str × Addr)) (fp : List Addr), PG (blkH X s H scope (compEnvC scope cl C X.env) fp) tg g) (ht : ∀ (s : Shared) (H : Hp) (C : Addr) (cl : List (Str × Addr)) (fp : List Addr), PTs (blkH X s H scope (compEnvC scope cl C X.env) fp) ifs tt)
    (he : ∀ (s : Shared) (H : Hp) (C : Addr) (cl : List (Str × Addr)) (fp : List Addr), PE (blkH X s H scope (compEnvC scope cl C X.env) fp) elt te) (hs : ∀ x, foldedSetIterable iter X.env x = pure x := by intro _; rfl) :
    PS X (.Assign [.Name y py] (.ListComp elt [⟨tg, iter, ifs, 0⟩] scope pos) spos)
      (tAsg (tLc wi g tt te (own.map (·.2))) (gName i)) := by
  refine ⟨fun pins s σ H E it h => ?_⟩
  rw [exec_Assign_Name_used (hs := hsw)]
  refine (wpAny_bind (wpAny_standAt (wpAny_bind ?_)))
  change wpAny _ X.A (do let _ ← comprehension (.ListComp elt [⟨tg, iter, ifs, 0⟩] scope pos) scope X.env (firstIterPos [⟨tg, iter, ifs, 0⟩] pos) (newList []) false (eval iter X.env) (some (assign (.Name y py) X.env))) _ _ s
  have h' : tLc wi g tt te (own.map (·.2)) σ H (fun x H1 => gName i x σ H1 E.nx) := h
  refine wpAny_bind (thn (lc_coreH (Qf := fun _ s9 => SP X pins E .next s9) hot hN it hi ok hg ht he hs h' fun lst C s9 m H9 it9 q hn f => ?_) fun _ s9 hq => wpAny_pure (wpAny_pure hq))
  show wpAny _ _ (assign (.Name y py) X.env (.ref lst)) _ _ _
  refine wpAny_assign_Name (store_ok2 (v := V.ref lst) it9 hN hy (.inl hyl) rfl (fun s2 I2 ⟨a, sb9, ha⟩ => ?_) (.inr hyl))
  obtain ⟨c0, c1, c2, c3, c4, c5⟩ := f
  have ne : C ≠ a := ha.elim (fun z9 => by rw [z9]; exact c1) fun z9 e => c4 y a z9 e.symm
  exact ⟨m, hn.sameBut sb9 ne, fun h3 sb3 => ⟨_, H9, I2.turned (t' := s2.toks) (fun b o hb e => (sb3.2 b hb).trans e) c0 c1 c3 c4 c5, q⟩⟩
end
section
variable {X : Cx} {W : WX} {elt tg iter : Expr} {ifs : List Expr} {scope : Scope} {own : List (Str × Nat)} {pos spos py : Pos} {fi : EI} {g : TG} {tgt : Tgt} {tc : ET} {fe : EB}
theorem s_setLcH {i : Nat} {y : Str} (hot : L2H.HotC X) (hN : X.N.Nodup) (hy : X.N[i]? = some y) (hyl : X.env.scope.names.lookup y = some .local)
    (hsw : swapsWith (.ListComp elt [⟨tg, iter, ifs, 0⟩] scope pos) (some (.Name y py)) spos.line X.env = pure true) (hi : L2H.PIH X tg iter (tI X.K W fi)) (ok : BlkOk X.N X.env.scope scope own) (tw : TgW X.K g tgt (own.map (·.2)))
    (hg : ∀ (s : Shared) (H : Hp) (C : Addr) (cl : List (Str × Addr)) (fp : List Addr), PG (blkH X s H scope (compEnvC scope cl C X.env) fp) tg g) (ht : ∀ (s : Shared) (H : Hp) (C : Addr) (cl : List (Str × Addr)) (fp : List Addr), PTs (blkH X s H scope (compEnvC scope cl C X.env) fp) ifs (tT X.K W0 tc))
    (he : ∀ (s : Shared) (H : Hp) (C : Addr) (cl : List (Str × Addr)) (fp : List Addr), PE (blkH X s H scope (compEnvC scope cl C X.env) fp) elt (tB X.K W0 fe)) (hs : ∀ x, foldedSetIterable iter X.env x = pure x := by intro _; rfl) :
    PS X (.Assign [.Name y py] (.ListComp elt [⟨tg, iter, ifs, 0⟩] scope pos) spos) (tS X.K W (sAsg i (eLc (own.map (·.2)) fi tgt tc fe))) :=
  ps_w (ps_setLcH hot hN hy hyl hsw hi ok hg ht he hs) fun E σ H hq => lc_of tw σ H _ (asg_of hq)
end
end Mv

namespace Mv
open PySem L2 NdefX
open Classical

/-! ### what the written part says of an exception class, as checks -/
instance : DecidableEq (Option (Option Value)) := inferInstance
def oexB (K : PySem.W.Frag) (C : Addr) : Bool := (match K.lookup C with
  | some ⟨.type "type", _, .cls cd, sl⟩ =>
    (match cd.mro, sl.toList with
    | .ref C' :: bm, [_, _, _, _, some (.builtin n), _] => C' == C && n == "ValueError.__new__" && !cd.hasDel && cd.hasDict && PySem.HandSPX.refsVE bm
    | _, _ => false)
  | _ => false) && PySem.W.findIn K (.ref C) "__setattr__" == some (some (.builtin "object.__setattr__")) && PySem.W.subIn K (.ref C) (.type "BaseException") == some true && PySem.W.typeIn K (.ref C) == some (.type "type") && PySem.W.keepIn K (.ref C)
theorem oexB_ok {K : PySem.W.Frag} {C : Addr} (h : oexB K C = true) : OexC K C := by
  unfold oexB at h
  simp only [Bool.and_eq_true, beq_iff_eq] at h
  obtain ⟨⟨⟨⟨h1, h2⟩, h3⟩, h4⟩, h5⟩ := h
  refine ⟨?_, h2, h3, h4, h5⟩
  split at h1
  · rename_i dd cd sl ho
    split at h1
    · rename_i C9 bm k0 k1 k2 k3 n k5 hm hs
      simp only [Bool.and_eq_true, beq_iff_eq, Bool.not_eq_true'] at h1
      obtain ⟨⟨⟨⟨rfl, rfl⟩, hdel⟩, hdct⟩, ht⟩ := h1
      rcases cd with ⟨nm, bs, mro, ns, qn, hd, sn, sub, ab, col, del⟩
      dsimp only at hm hdel hdct
      subst hm hdel hdct
      obtain ⟨l⟩ := sl
      simp only at hs
      subst hs
      exact ⟨nm, qn, ns, bs, bm, sn, sub, ab, col, dd, k0, k1, k2, k3, k5, ho, ht⟩
    · cases h1
  · cases h1
def ecB (K : PySem.W.Frag) (C : Addr) : Bool := PySem.W.findIn K (.ref C) "__getattribute__" == some (some (.builtin "BaseException.__getattribute__")) && PySem.W.findIn K (.ref C) "__getattr__" == some none && PySem.W.subIn K (.ref C) (.type "BaseException") == some true &&
  PySem.W.hasDictIn K C && PySem.W.findIn K (.ref C) "__class__" == some (some (.builtin "object.__class__")) && PySem.W.specialIn K (.builtin "object.__class__") "__get__" == some (some (.builtin "getset_descriptor.__get__")) && PySem.W.takesIn K (.builtin "object.__class__") == some true && PySem.W.mroIn K C (.type "object") == some true
theorem ecB_ok {K : PySem.W.Frag} {C : Addr} (h : ecB K C = true) : L2.ExcC K C := by
  unfold ecB at h
  simp only [Bool.and_eq_true, beq_iff_eq] at h
  rcases h with ⟨⟨⟨⟨⟨⟨⟨h1, h2⟩, h3⟩, h4⟩, h5⟩, h6⟩, h7⟩, h8⟩
  exact ⟨h1, h2, h3, h4, h5, h6, h7, h8⟩
def supCB (K : PySem.W.Frag) (C D : Addr) : Bool := PySem.W.mroIn K C (.ref D) == some true && PySem.W.ks_superIn K C D "__init__" == some (some (.builtin "ValueError.__init__")) && PySem.W.subIn K (.ref C) (.type "ValueError") == some true
theorem supCB_ok {K : PySem.W.Frag} {C D : Addr} (h : supCB K C D = true) : SupC K C D := by
  unfold supCB at h
  simp only [Bool.and_eq_true, beq_iff_eq] at h
  exact ⟨h.1.1, h.1.2, h.2⟩
/-- a class of exceptions with its own __init__ (at fI, written in the class at D), its fields fl; caught by the class at O -/
structure RzI (K : PySem.W.Frag) (C D fI : Addr) (fl : List Str) : Prop where
  T : OexC K C
  SC : SupC K C D
  no : ∀ f ∈ fl, PySem.W.findIn K (.ref C) f = some none
  iC : PySem.W.findIn K (.ref C) "__init__" = some (some (.ref fI))
def rzIB (K : PySem.W.Frag) (C D fI : Addr) (fl : List Str) : Bool := oexB K C && supCB K C D && fl.all (fun f => PySem.W.findIn K (.ref C) f == some none) && PySem.W.findIn K (.ref C) "__init__" == some (some (.ref fI))
theorem rzIB_ok {K : PySem.W.Frag} {C D fI : Addr} {fl : List Str} (h : rzIB K C D fI fl = true) : RzI K C D fI fl := by
  unfold rzIB at h
  simp only [Bool.and_eq_true, beq_iff_eq, List.all_eq_true] at h
  rcases h with ⟨⟨⟨h1, h2⟩, h3⟩, h4⟩
  exact ⟨oexB_ok h1, supCB_ok h2, h3, h4⟩
/-- the table of isinstance: the classes cs, what is asked ws -/
def isTab (K : PySem.W.Frag) (cs : List Addr) (ws : List Value) (M : List (List Bool)) : Bool := cs.length == M.length && (cs.zip M).all fun p => ws.length == p.2.length && (ws.zip p.2).all fun q => PySem.W.kitAny K (.ref p.1) [q.1] == some q.2
theorem zip_get {α β : Type} : ∀ {xs : List α} {ys : List β} {i : Nat} {x : α} {y : β}, xs[i]? = some x → ys[i]? = some y → (x, y) ∈ xs.zip ys
  | x :: xs, y :: ys, 0, _, _, h1, h2 => by simp at h1 h2; subst h1 h2; simp
  | x :: xs, y :: ys, i + 1, _, _, h1, h2 => by
    rw [List.zip_cons_cons]
    exact List.mem_cons_of_mem _ (zip_get (i := i) (by simpa using h1) (by simpa using h2))
theorem isTab_at {K : PySem.W.Frag} {cs : List Addr} {ws : List Value} {M : List (List Bool)} (h : isTab K cs ws M = true) {i j : Nat} {c : Addr} {r : List Bool} {w : Value} {b : Bool} (h1 : cs[i]? = some c) (h2 : M[i]? = some r) (h3 : ws[j]? = some w) (h4 : r[j]? = some b) : PySem.W.kitAny K (.ref c) [w] = some b := by
  unfold isTab at h
  rw [Bool.and_eq_true, List.all_eq_true] at h
  have q := h.2 _ (zip_get h1 h2)
  rw [Bool.and_eq_true, List.all_eq_true] at q
  exact beq_iff_eq.mp (q.2 _ (zip_get h3 h4))
/-- .. of the except clause -/
def exmTab (K : PySem.W.Frag) (cs : List Addr) (O : Addr) : Bool := cs.all fun c => PySem.W.exmOne K (.ref c) (.ref O) == some true && ecB K c
theorem exmTab_at {K : PySem.W.Frag} {cs : List Addr} {O : Addr} (h : exmTab K cs O = true) {c : Addr} (hc : c ∈ cs) : PySem.W.exmOne K (.ref c) (.ref O) = some true ∧ L2.ExcC K c := by
  unfold exmTab at h
  have q := List.all_eq_true.mp h c hc
  rw [Bool.and_eq_true] at q
  exact ⟨beq_iff_eq.mp q.1, ecB_ok q.2⟩
/-- a class without own __init__ that is raised -/
def rz0B (K : PySem.W.Frag) (C : Addr) : Bool := PySem.W.keepIn K (.ref C) && PySem.W.subIn K (.ref C) (.type "BaseException") == some true && PySem.W.typeIn K (.ref C) == some (.type "type")
structure Rz0 (K : PySem.W.Frag) (C : Addr) : Prop where
  k : PySem.W.keepIn K (.ref C) = true
  sb : PySem.W.subIn K (.ref C) (.type "BaseException") = some true
  ty : PySem.W.typeIn K (.ref C) = some (.type "type")
theorem rz0B_ok {K : PySem.W.Frag} {C : Addr} (h : rz0B K C = true) : Rz0 K C := by
  unfold rz0B at h
  simp only [Bool.and_eq_true, beq_iff_eq] at h
  exact ⟨h.1.1, h.1.2, h.2⟩
theorem supD_mk {P : Program} {K : PySem.W.Frag} {F : NF} {cc f D : Addr} {oc : Value} {od an cdd cld : Option Addr} {osl csl ccs : Array (Option Value)} {dV kV doc pm ct ccl c : Value} {vs : Array Value} {file : Str} {tf : Tok} (hcl : F.cl = [(("__class__" : Str), cc)])
    (l : K.lookup f = some ⟨oc, od, .func (PySem.W.fnX F.name F.qual F.params F.body F.scope F.cl dV kV doc pm an (.ref F.c) ct), osl⟩) (h1 : PySem.W.codeIn K (.ref F.c) F.qual = true)
    (h2 : K.lookup F.c = some ⟨ccl, cdd, .fields vs, ccs⟩) (h3 : vs[2]? = some (.str file tf)) (h4 : ((P.main.file : Str) == file) = true) (h5 : K.lookup cc = some ⟨c, cld, .cell (some (.ref D)), csl⟩)
    (h6 : PySem.W.isClsIn K D = true) (h7 : (P.main.scope.names.lookup ("super" : Str)).isSome = false) (h8 : PySem.W.nsIn K cStatics "thirdparty.any" = some none) :
    SupD P K F cc f D (PySem.W.fnX F.name F.qual F.params F.body F.scope F.cl dV kV doc pm an (.ref F.c) ct) :=
  ⟨⟨_, _, _, _, _, _, _, _, _, rfl, l⟩, hcl, h1, ⟨_, _, _, _, _, _, h2, h3, h4⟩, ⟨_, _, _, h5⟩, h6, h7, h8⟩
/-! ### texts one behind the other -/
def gCatS : D → D → Option D
  | .str x, .str y => if x.length + y.length ≤ sizeLine then some (.str (x ++ y)) else none
  | _, _ => none
theorem ok_catS {K : PySem.W.Frag} : OpOk K (fun x y H Q => ∃ i j, x = .str i ∧ y = .str j ∧ i.length + j.length ≤ sizeLine ∧ Q (.str (i ++ j)) H) gCatS := by
  intro H da db d x y Q ra rb e k
  cases da <;> first | (cases e; done) | skip
  cases db <;> first | (cases e; done) | skip
  rename_i x1 y1
  unfold gCatS at e
  dsimp only at e
  by_cases h : x1.length + y1.length ≤ sizeLine
  · rw [if_pos h] at e
    cases e
    rw [Rep] at ra rb
    exact ⟨x1, y1, ra, rb, h, k _ fun _ => rep_str⟩
  · rw [if_neg h] at e; cases e
section
variable {X : Cx} {W : WX} {a b : Expr} {pos : Pos} {f1 f2 : EB}
theorem b_catS (ha : PE X a (tB X.K W f1)) (hb : PE X b (tB X.K W f2)) : PE X (.BinOp a .Add b pos) (tB X.K W (eOp gCatS f1 f2)) := b_op op_add_str ok_catS ha hb
theorem passes_no (tk : L2N.Takes X W) : Passes (L2N.CX X.prog X.w) X (fun _ _ _ => False) := L2N.passes_call tk fun _ _ _ _ h => h.elim
end
end Mv

namespace K70
open PySem L2 Mv

def top (i : Nat) : Stmt := PySem.Challenge.pw_foreworth_k70_errors_by_hand.main.body.getD i (.Pass ⟨0, 0, 0, 0⟩)
abbrev s_law_cell : Stmt := top 39
abbrev s_law_digits : Stmt := top 40
abbrev s_law_seed : Stmt := top 41
abbrev s_law_is_int : Stmt := top 42
abbrev s_law_first : Stmt := top 43
abbrev s_law_second : Stmt := top 44
abbrev s_law_kinds : Stmt := top 45
abbrev s_law_fields : Stmt := top 46
abbrev s_law_due : Stmt := top 47
abbrev s_law_same : Stmt := top 48
abbrev s_law_raised : Stmt := top 49
abbrev s_law_number : Stmt := top 50
abbrev s_law_text : Stmt := top 51
abbrev s_law : Stmt := top 52
abbrev i_BadChange : Stmt := inClass (top 23) 0
abbrev nf_BadChange (cc ca : Addr) : NdefX.NF := ⟨"__init__", "BadChange.__init__", defArgs i_BadChange, defBody i_BadChange, defScope i_BadChange, [(("__class__" : Str), cc)], ca⟩
abbrev i_BadJournal : Stmt := inClass (top 37) 0
abbrev nf_BadJournal (cc ca : Addr) : NdefX.NF := ⟨"__init__", "BadJournal.__init__", defArgs i_BadJournal, defBody i_BadJournal, defScope i_BadJournal, [(("__class__" : Str), cc)], ca⟩
abbrev i_BadName : Stmt := inClass (top 29) 0
abbrev nf_BadName (cc ca : Addr) : NdefX.NF := ⟨"__init__", "BadName.__init__", defArgs i_BadName, defBody i_BadName, defScope i_BadName, [(("__class__" : Str), cc)], ca⟩
abbrev i_BadNode : Stmt := inClass (top 2) 0
abbrev nf_BadNode (cc ca : Addr) : NdefX.NF := ⟨"__init__", "BadNode.__init__", defArgs i_BadNode, defBody i_BadNode, defScope i_BadNode, [(("__class__" : Str), cc)], ca⟩
abbrev i_BadPolicy : Stmt := inClass (top 34) 0
abbrev nf_BadPolicy (cc ca : Addr) : NdefX.NF := ⟨"__init__", "BadPolicy.__init__", defArgs i_BadPolicy, defBody i_BadPolicy, defScope i_BadPolicy, [(("__class__" : Str), cc)], ca⟩
abbrev i_BadRun : Stmt := inClass (top 15) 0
abbrev nf_BadRun (cc ca : Addr) : NdefX.NF := ⟨"__init__", "BadRun.__init__", defArgs i_BadRun, defBody i_BadRun, defScope i_BadRun, [(("__class__" : Str), cc)], ca⟩
abbrev i_BadStay : Stmt := inClass (top 18) 0
abbrev nf_BadStay (cc ca : Addr) : NdefX.NF := ⟨"__init__", "BadStay.__init__", defArgs i_BadStay, defBody i_BadStay, defScope i_BadStay, [(("__class__" : Str), cc)], ca⟩
abbrev i_BareLoop : Stmt := inClass (top 13) 0
abbrev nf_BareLoop (cc ca : Addr) : NdefX.NF := ⟨"__init__", "BareLoop.__init__", defArgs i_BareLoop, defBody i_BareLoop, defScope i_BareLoop, [(("__class__" : Str), cc)], ca⟩
abbrev i_NameTaken : Stmt := inClass (top 30) 0
abbrev nf_NameTaken (cc ca : Addr) : NdefX.NF := ⟨"__init__", "NameTaken.__init__", defArgs i_NameTaken, defBody i_NameTaken, defScope i_NameTaken, [(("__class__" : Str), cc)], ca⟩
abbrev i_NoEnd : Stmt := inClass (top 4) 0
abbrev nf_NoEnd (cc ca : Addr) : NdefX.NF := ⟨"__init__", "NoEnd.__init__", defArgs i_NoEnd, defBody i_NoEnd, defScope i_NoEnd, [(("__class__" : Str), cc)], ca⟩
abbrev i_NoProgram : Stmt := inClass (top 31) 0
abbrev nf_NoProgram (cc ca : Addr) : NdefX.NF := ⟨"__init__", "NoProgram.__init__", defArgs i_NoProgram, defBody i_NoProgram, defScope i_NoProgram, [(("__class__" : Str), cc)], ca⟩
abbrev i_NoTeam : Stmt := inClass (top 32) 0
abbrev nf_NoTeam (cc ca : Addr) : NdefX.NF := ⟨"__init__", "NoTeam.__init__", defArgs i_NoTeam, defBody i_NoTeam, defScope i_NoTeam, [(("__class__" : Str), cc)], ca⟩
abbrev i_NotStanding : Stmt := inClass (top 16) 0
abbrev nf_NotStanding (cc ca : Addr) : NdefX.NF := ⟨"__init__", "NotStanding.__init__", defArgs i_NotStanding, defBody i_NotStanding, defScope i_NotStanding, [(("__class__" : Str), cc)], ca⟩
abbrev i_TextError : Stmt := inClass (top 6) 0
abbrev nf_TextError (cc ca : Addr) : NdefX.NF := ⟨"__init__", "TextError.__init__", defArgs i_TextError, defBody i_TextError, defScope i_TextError, [(("__class__" : Str), cc)], ca⟩
abbrev i_Unending : Stmt := inClass (top 33) 0
abbrev nf_Unending (cc ca : Addr) : NdefX.NF := ⟨"__init__", "Unending.__init__", defArgs i_Unending, defBody i_Unending, defScope i_Unending, [(("__class__" : Str), cc)], ca⟩
abbrev i_Unreachable : Stmt := inClass (top 3) 0
abbrev nf_Unreachable (cc ca : Addr) : NdefX.NF := ⟨"__init__", "Unreachable.__init__", defArgs i_Unreachable, defBody i_Unreachable, defScope i_Unreachable, [(("__class__" : Str), cc)], ca⟩
abbrev i_WildProgram : Stmt := inClass (top 20) 0
abbrev nf_WildProgram (cc ca : Addr) : NdefX.NF := ⟨"__init__", "WildProgram.__init__", defArgs i_WildProgram, defBody i_WildProgram, defScope i_WildProgram, [(("__class__" : Str), cc)], ca⟩
/-- what the top has written -/
structure Txt (P : Program) (K : PySem.W.Frag) (mg : Str → Option Value) where
  a_law_cell : Addr
  fd_law_cell : FuncData
  F_law_cell : Fun K "_law_cell" "_law_cell" s_law_cell a_law_cell fd_law_cell
  k_law_cell : PySem.W.keepIn K (.ref a_law_cell) = true
  g_law_cell : mg "_law_cell" = some (.ref a_law_cell)
  b_law_cell : Binds K fd_law_cell ["_law_script", "_law_k"] []
  a_law_digits : Addr
  fd_law_digits : FuncData
  F_law_digits : Fun K "_law_digits" "_law_digits" s_law_digits a_law_digits fd_law_digits
  k_law_digits : PySem.W.keepIn K (.ref a_law_digits) = true
  g_law_digits : mg "_law_digits" = some (.ref a_law_digits)
  b_law_digits : Binds K fd_law_digits ["_law_cell_here", "_law_count", "_law_size"] []
  a_law_seed : Addr
  fd_law_seed : FuncData
  F_law_seed : Fun K "_law_seed" "_law_seed" s_law_seed a_law_seed fd_law_seed
  k_law_seed : PySem.W.keepIn K (.ref a_law_seed) = true
  g_law_seed : mg "_law_seed" = some (.ref a_law_seed)
  b_law_seed : Binds K fd_law_seed ["_law_script", "_law_k"] []
  a_law_is_int : Addr
  fd_law_is_int : FuncData
  F_law_is_int : Fun K "_law_is_int" "_law_is_int" s_law_is_int a_law_is_int fd_law_is_int
  k_law_is_int : PySem.W.keepIn K (.ref a_law_is_int) = true
  g_law_is_int : mg "_law_is_int" = some (.ref a_law_is_int)
  b_law_is_int : Binds K fd_law_is_int ["_law_value"] []
  a_law_first : Addr
  fd_law_first : FuncData
  F_law_first : Fun K "_law_first" "_law_first" s_law_first a_law_first fd_law_first
  k_law_first : PySem.W.keepIn K (.ref a_law_first) = true
  g_law_first : mg "_law_first" = some (.ref a_law_first)
  b_law_first : Binds K fd_law_first ["_law_k", "_law_one", "_law_two"] []
  a_law_second : Addr
  fd_law_second : FuncData
  F_law_second : Fun K "_law_second" "_law_second" s_law_second a_law_second fd_law_second
  k_law_second : PySem.W.keepIn K (.ref a_law_second) = true
  g_law_second : mg "_law_second" = some (.ref a_law_second)
  b_law_second : Binds K fd_law_second ["_law_k", "_law_one", "_law_text_here"] []
  a_law_kinds : Addr
  fd_law_kinds : FuncData
  F_law_kinds : Fun K "_law_kinds" "_law_kinds" s_law_kinds a_law_kinds fd_law_kinds
  k_law_kinds : PySem.W.keepIn K (.ref a_law_kinds) = true
  g_law_kinds : mg "_law_kinds" = some (.ref a_law_kinds)
  b_law_kinds : Binds K fd_law_kinds ["_law_e"] []
  a_law_fields : Addr
  fd_law_fields : FuncData
  F_law_fields : Fun K "_law_fields" "_law_fields" s_law_fields a_law_fields fd_law_fields
  k_law_fields : PySem.W.keepIn K (.ref a_law_fields) = true
  g_law_fields : mg "_law_fields" = some (.ref a_law_fields)
  b_law_fields : Binds K fd_law_fields ["_law_k", "_law_e"] []
  a_law_due : Addr
  fd_law_due : FuncData
  F_law_due : Fun K "_law_due" "_law_due" s_law_due a_law_due fd_law_due
  k_law_due : PySem.W.keepIn K (.ref a_law_due) = true
  g_law_due : mg "_law_due" = some (.ref a_law_due)
  b_law_due : Binds K fd_law_due ["_law_k", "_law_one", "_law_two", "_law_text_here"] []
  a_law_same : Addr
  fd_law_same : FuncData
  F_law_same : Fun K "_law_same" "_law_same" s_law_same a_law_same fd_law_same
  k_law_same : PySem.W.keepIn K (.ref a_law_same) = true
  g_law_same : mg "_law_same" = some (.ref a_law_same)
  b_law_same : Binds K fd_law_same ["_law_told", "_law_due_here"] []
  a_law_raised : Addr
  fd_law_raised : FuncData
  F_law_raised : Fun K "_law_raised" "_law_raised" s_law_raised a_law_raised fd_law_raised
  k_law_raised : PySem.W.keepIn K (.ref a_law_raised) = true
  g_law_raised : mg "_law_raised" = some (.ref a_law_raised)
  b_law_raised : Binds K fd_law_raised ["_law_k", "_law_one", "_law_two", "_law_text_here"] []
  a_law_number : Addr
  fd_law_number : FuncData
  F_law_number : Fun K "_law_number" "_law_number" s_law_number a_law_number fd_law_number
  k_law_number : PySem.W.keepIn K (.ref a_law_number) = true
  g_law_number : mg "_law_number" = some (.ref a_law_number)
  b_law_number : Binds K fd_law_number ["_law_cell_here"] []
  a_law_text : Addr
  fd_law_text : FuncData
  F_law_text : Fun K "_law_text" "_law_text" s_law_text a_law_text fd_law_text
  k_law_text : PySem.W.keepIn K (.ref a_law_text) = true
  g_law_text : mg "_law_text" = some (.ref a_law_text)
  b_law_text : Binds K fd_law_text ["_law_cell_here"] []
  a_law : Addr
  fd_law : FuncData
  F_law : Fun K "law" "law" s_law a_law fd_law
  k_law : PySem.W.keepIn K (.ref a_law) = true
  g_law : mg "law" = some (.ref a_law)
  b_law : Binds K fd_law ["_law_script"] []
  z_len : mg "len" = none
  z_abs : mg "abs" = none
  z_int : mg "int" = none
  z_range : mg "range" = none
  z_isinstance : mg "isinstance" = none
  z_bool : mg "bool" = none
  z_str : mg "str" = none
  z_ValueError : mg "ValueError" = none
  z_super : mg "super" = none
  a_BadChange : Addr
  g_BadChange : mg "BadChange" = some (.ref a_BadChange)
  a_BadDoors : Addr
  g_BadDoors : mg "BadDoors" = some (.ref a_BadDoors)
  a_BadJournal : Addr
  g_BadJournal : mg "BadJournal" = some (.ref a_BadJournal)
  a_BadLine : Addr
  g_BadLine : mg "BadLine" = some (.ref a_BadLine)
  a_BadName : Addr
  g_BadName : mg "BadName" = some (.ref a_BadName)
  a_BadNode : Addr
  g_BadNode : mg "BadNode" = some (.ref a_BadNode)
  a_BadOrder : Addr
  g_BadOrder : mg "BadOrder" = some (.ref a_BadOrder)
  a_BadPolicy : Addr
  g_BadPolicy : mg "BadPolicy" = some (.ref a_BadPolicy)
  a_BadRing : Addr
  g_BadRing : mg "BadRing" = some (.ref a_BadRing)
  a_BadRun : Addr
  g_BadRun : mg "BadRun" = some (.ref a_BadRun)
  a_BadStart : Addr
  g_BadStart : mg "BadStart" = some (.ref a_BadStart)
  a_BadStay : Addr
  g_BadStay : mg "BadStay" = some (.ref a_BadStay)
  a_BadWord : Addr
  g_BadWord : mg "BadWord" = some (.ref a_BadWord)
  a_BareLoop : Addr
  g_BareLoop : mg "BareLoop" = some (.ref a_BareLoop)
  a_DeskError : Addr
  g_DeskError : mg "DeskError" = some (.ref a_DeskError)
  a_DuplicateMark : Addr
  g_DuplicateMark : mg "DuplicateMark" = some (.ref a_DuplicateMark)
  a_ForeworthError : Addr
  g_ForeworthError : mg "ForeworthError" = some (.ref a_ForeworthError)
  a_Incomplete : Addr
  g_Incomplete : mg "Incomplete" = some (.ref a_Incomplete)
  a_Misplaced : Addr
  g_Misplaced : mg "Misplaced" = some (.ref a_Misplaced)
  a_MixedGraphs : Addr
  g_MixedGraphs : mg "MixedGraphs" = some (.ref a_MixedGraphs)
  a_NameTaken : Addr
  g_NameTaken : mg "NameTaken" = some (.ref a_NameTaken)
  a_NoEnd : Addr
  g_NoEnd : mg "NoEnd" = some (.ref a_NoEnd)
  a_NoMark : Addr
  g_NoMark : mg "NoMark" = some (.ref a_NoMark)
  a_NoProgram : Addr
  g_NoProgram : mg "NoProgram" = some (.ref a_NoProgram)
  a_NoTeam : Addr
  g_NoTeam : mg "NoTeam" = some (.ref a_NoTeam)
  a_NoWild : Addr
  g_NoWild : mg "NoWild" = some (.ref a_NoWild)
  a_NotOver : Addr
  g_NotOver : mg "NotOver" = some (.ref a_NotOver)
  a_NotStanding : Addr
  g_NotStanding : mg "NotStanding" = some (.ref a_NotStanding)
  a_NothingToRedo : Addr
  g_NothingToRedo : mg "NothingToRedo" = some (.ref a_NothingToRedo)
  a_NothingToUndo : Addr
  g_NothingToUndo : mg "NothingToUndo" = some (.ref a_NothingToUndo)
  a_TextError : Addr
  g_TextError : mg "TextError" = some (.ref a_TextError)
  a_TooDeep : Addr
  g_TooDeep : mg "TooDeep" = some (.ref a_TooDeep)
  a_TooLarge : Addr
  g_TooLarge : mg "TooLarge" = some (.ref a_TooLarge)
  a_Unclosed : Addr
  g_Unclosed : mg "Unclosed" = some (.ref a_Unclosed)
  a_Unending : Addr
  g_Unending : mg "Unending" = some (.ref a_Unending)
  a_Unreachable : Addr
  g_Unreachable : mg "Unreachable" = some (.ref a_Unreachable)
  a_WildProgram : Addr
  g_WildProgram : mg "WildProgram" = some (.ref a_WildProgram)
  fi_BadChange : Addr
  fd_i_BadChange : FuncData
  cc_BadChange : Addr
  ca_BadChange : Addr
  S_BadChange : SupD P K (nf_BadChange cc_BadChange ca_BadChange) cc_BadChange fi_BadChange a_BadChange fd_i_BadChange
  tI_BadChange : PySem.W.typeIn K (.ref fi_BadChange) = some (.type "function")
  bi_BadChange : Binds K fd_i_BadChange ["self", "node"] []
  fi_BadJournal : Addr
  fd_i_BadJournal : FuncData
  cc_BadJournal : Addr
  ca_BadJournal : Addr
  S_BadJournal : SupD P K (nf_BadJournal cc_BadJournal ca_BadJournal) cc_BadJournal fi_BadJournal a_BadJournal fd_i_BadJournal
  tI_BadJournal : PySem.W.typeIn K (.ref fi_BadJournal) = some (.type "function")
  bi_BadJournal : Binds K fd_i_BadJournal ["self", "line"] []
  fi_BadName : Addr
  fd_i_BadName : FuncData
  cc_BadName : Addr
  ca_BadName : Addr
  S_BadName : SupD P K (nf_BadName cc_BadName ca_BadName) cc_BadName fi_BadName a_BadName fd_i_BadName
  tI_BadName : PySem.W.typeIn K (.ref fi_BadName) = some (.type "function")
  bi_BadName : Binds K fd_i_BadName ["self", "name"] []
  fi_BadNode : Addr
  fd_i_BadNode : FuncData
  cc_BadNode : Addr
  ca_BadNode : Addr
  S_BadNode : SupD P K (nf_BadNode cc_BadNode ca_BadNode) cc_BadNode fi_BadNode a_BadNode fd_i_BadNode
  tI_BadNode : PySem.W.typeIn K (.ref fi_BadNode) = some (.type "function")
  bi_BadNode : Binds K fd_i_BadNode ["self", "node"] []
  fi_BadPolicy : Addr
  fd_i_BadPolicy : FuncData
  cc_BadPolicy : Addr
  ca_BadPolicy : Addr
  S_BadPolicy : SupD P K (nf_BadPolicy cc_BadPolicy ca_BadPolicy) cc_BadPolicy fi_BadPolicy a_BadPolicy fd_i_BadPolicy
  tI_BadPolicy : PySem.W.typeIn K (.ref fi_BadPolicy) = some (.type "function")
  bi_BadPolicy : Binds K fd_i_BadPolicy ["self", "name"] []
  fi_BadRun : Addr
  fd_i_BadRun : FuncData
  cc_BadRun : Addr
  ca_BadRun : Addr
  S_BadRun : SupD P K (nf_BadRun cc_BadRun ca_BadRun) cc_BadRun fi_BadRun a_BadRun fd_i_BadRun
  tI_BadRun : PySem.W.typeIn K (.ref fi_BadRun) = some (.type "function")
  bi_BadRun : Binds K fd_i_BadRun ["self", "lane", "place"] []
  fi_BadStay : Addr
  fd_i_BadStay : FuncData
  cc_BadStay : Addr
  ca_BadStay : Addr
  S_BadStay : SupD P K (nf_BadStay cc_BadStay ca_BadStay) cc_BadStay fi_BadStay a_BadStay fd_i_BadStay
  tI_BadStay : PySem.W.typeIn K (.ref fi_BadStay) = some (.type "function")
  bi_BadStay : Binds K fd_i_BadStay ["self", "place"] []
  fi_BareLoop : Addr
  fd_i_BareLoop : FuncData
  cc_BareLoop : Addr
  ca_BareLoop : Addr
  S_BareLoop : SupD P K (nf_BareLoop cc_BareLoop ca_BareLoop) cc_BareLoop fi_BareLoop a_BareLoop fd_i_BareLoop
  tI_BareLoop : PySem.W.typeIn K (.ref fi_BareLoop) = some (.type "function")
  bi_BareLoop : Binds K fd_i_BareLoop ["self", "statement"] []
  fi_NameTaken : Addr
  fd_i_NameTaken : FuncData
  cc_NameTaken : Addr
  ca_NameTaken : Addr
  S_NameTaken : SupD P K (nf_NameTaken cc_NameTaken ca_NameTaken) cc_NameTaken fi_NameTaken a_NameTaken fd_i_NameTaken
  tI_NameTaken : PySem.W.typeIn K (.ref fi_NameTaken) = some (.type "function")
  bi_NameTaken : Binds K fd_i_NameTaken ["self", "name"] []
  fi_NoEnd : Addr
  fd_i_NoEnd : FuncData
  cc_NoEnd : Addr
  ca_NoEnd : Addr
  S_NoEnd : SupD P K (nf_NoEnd cc_NoEnd ca_NoEnd) cc_NoEnd fi_NoEnd a_NoEnd fd_i_NoEnd
  tI_NoEnd : PySem.W.typeIn K (.ref fi_NoEnd) = some (.type "function")
  bi_NoEnd : Binds K fd_i_NoEnd ["self", "node"] []
  fi_NoProgram : Addr
  fd_i_NoProgram : FuncData
  cc_NoProgram : Addr
  ca_NoProgram : Addr
  S_NoProgram : SupD P K (nf_NoProgram cc_NoProgram ca_NoProgram) cc_NoProgram fi_NoProgram a_NoProgram fd_i_NoProgram
  tI_NoProgram : PySem.W.typeIn K (.ref fi_NoProgram) = some (.type "function")
  bi_NoProgram : Binds K fd_i_NoProgram ["self", "name"] []
  fi_NoTeam : Addr
  fd_i_NoTeam : FuncData
  cc_NoTeam : Addr
  ca_NoTeam : Addr
  S_NoTeam : SupD P K (nf_NoTeam cc_NoTeam ca_NoTeam) cc_NoTeam fi_NoTeam a_NoTeam fd_i_NoTeam
  tI_NoTeam : PySem.W.typeIn K (.ref fi_NoTeam) = some (.type "function")
  bi_NoTeam : Binds K fd_i_NoTeam ["self", "name"] []
  fi_NotStanding : Addr
  fd_i_NotStanding : FuncData
  cc_NotStanding : Addr
  ca_NotStanding : Addr
  S_NotStanding : SupD P K (nf_NotStanding cc_NotStanding ca_NotStanding) cc_NotStanding fi_NotStanding a_NotStanding fd_i_NotStanding
  tI_NotStanding : PySem.W.typeIn K (.ref fi_NotStanding) = some (.type "function")
  bi_NotStanding : Binds K fd_i_NotStanding ["self", "node"] []
  fi_TextError : Addr
  fd_i_TextError : FuncData
  cc_TextError : Addr
  ca_TextError : Addr
  S_TextError : SupD P K (nf_TextError cc_TextError ca_TextError) cc_TextError fi_TextError a_TextError fd_i_TextError
  tI_TextError : PySem.W.typeIn K (.ref fi_TextError) = some (.type "function")
  bi_TextError : Binds K fd_i_TextError ["self", "line"] []
  fi_Unending : Addr
  fd_i_Unending : FuncData
  cc_Unending : Addr
  ca_Unending : Addr
  S_Unending : SupD P K (nf_Unending cc_Unending ca_Unending) cc_Unending fi_Unending a_Unending fd_i_Unending
  tI_Unending : PySem.W.typeIn K (.ref fi_Unending) = some (.type "function")
  bi_Unending : Binds K fd_i_Unending ["self", "lane"] []
  fi_Unreachable : Addr
  fd_i_Unreachable : FuncData
  cc_Unreachable : Addr
  ca_Unreachable : Addr
  S_Unreachable : SupD P K (nf_Unreachable cc_Unreachable ca_Unreachable) cc_Unreachable fi_Unreachable a_Unreachable fd_i_Unreachable
  tI_Unreachable : PySem.W.typeIn K (.ref fi_Unreachable) = some (.type "function")
  bi_Unreachable : Binds K fd_i_Unreachable ["self", "node"] []
  fi_WildProgram : Addr
  fd_i_WildProgram : FuncData
  cc_WildProgram : Addr
  ca_WildProgram : Addr
  S_WildProgram : SupD P K (nf_WildProgram cc_WildProgram ca_WildProgram) cc_WildProgram fi_WildProgram a_WildProgram fd_i_WildProgram
  tI_WildProgram : PySem.W.typeIn K (.ref fi_WildProgram) = some (.type "function")
  bi_WildProgram : Binds K fd_i_WildProgram ["self", "node"] []
  rz_BadChange : RzI K a_BadChange a_BadChange fi_BadChange ["node"]
  rz_BadDoors : Rz0 K a_BadDoors
  q_BadDoors : PySem.W.excIn K a_BadDoors [.type "ValueError", .type "Exception", .type "BaseException", .type "object"] "ValueError.__new__" = true
  rz_BadJournal : RzI K a_BadJournal a_BadJournal fi_BadJournal ["line"]
  rz_BadLine : RzI K a_BadLine a_TextError fi_TextError ["line"]
  rz_BadName : RzI K a_BadName a_BadName fi_BadName ["name"]
  rz_BadNode : RzI K a_BadNode a_BadNode fi_BadNode ["node"]
  rz_BadOrder : Rz0 K a_BadOrder
  q_BadOrder : PySem.W.excIn K a_BadOrder [.type "ValueError", .type "Exception", .type "BaseException", .type "object"] "ValueError.__new__" = true
  rz_BadPolicy : RzI K a_BadPolicy a_BadPolicy fi_BadPolicy ["name"]
  rz_BadRing : Rz0 K a_BadRing
  q_BadRing : PySem.W.excIn K a_BadRing [.type "ValueError", .type "Exception", .type "BaseException", .type "object"] "ValueError.__new__" = true
  rz_BadRun : RzI K a_BadRun a_BadRun fi_BadRun ["lane", "place"]
  rz_BadStart : Rz0 K a_BadStart
  q_BadStart : PySem.W.excIn K a_BadStart [.type "ValueError", .type "Exception", .type "BaseException", .type "object"] "ValueError.__new__" = true
  rz_BadStay : RzI K a_BadStay a_BadStay fi_BadStay ["place"]
  rz_BadWord : Rz0 K a_BadWord
  q_BadWord : PySem.W.excIn K a_BadWord [.type "ValueError", .type "Exception", .type "BaseException", .type "object"] "ValueError.__new__" = true
  rz_BareLoop : RzI K a_BareLoop a_BareLoop fi_BareLoop ["statement"]
  rz_DeskError : Rz0 K a_DeskError
  q_DeskError : PySem.W.excIn K a_DeskError [.type "ValueError", .type "Exception", .type "BaseException", .type "object"] "ValueError.__new__" = true
  rz_DuplicateMark : RzI K a_DuplicateMark a_TextError fi_TextError ["line"]
  rz_Incomplete : Rz0 K a_Incomplete
  q_Incomplete : PySem.W.excIn K a_Incomplete [.type "ValueError", .type "Exception", .type "BaseException", .type "object"] "ValueError.__new__" = true
  rz_Misplaced : RzI K a_Misplaced a_TextError fi_TextError ["line"]
  rz_MixedGraphs : Rz0 K a_MixedGraphs
  q_MixedGraphs : PySem.W.excIn K a_MixedGraphs [.type "ValueError", .type "Exception", .type "BaseException", .type "object"] "ValueError.__new__" = true
  rz_NameTaken : RzI K a_NameTaken a_NameTaken fi_NameTaken ["name"]
  rz_NoEnd : RzI K a_NoEnd a_NoEnd fi_NoEnd ["node"]
  rz_NoMark : RzI K a_NoMark a_TextError fi_TextError ["line"]
  rz_NoProgram : RzI K a_NoProgram a_NoProgram fi_NoProgram ["name"]
  rz_NoTeam : RzI K a_NoTeam a_NoTeam fi_NoTeam ["name"]
  rz_NoWild : Rz0 K a_NoWild
  q_NoWild : PySem.W.excIn K a_NoWild [.type "ValueError", .type "Exception", .type "BaseException", .type "object"] "ValueError.__new__" = true
  rz_NotOver : Rz0 K a_NotOver
  q_NotOver : PySem.W.excIn K a_NotOver [.type "ValueError", .type "Exception", .type "BaseException", .type "object"] "ValueError.__new__" = true
  rz_NotStanding : RzI K a_NotStanding a_NotStanding fi_NotStanding ["node"]
  rz_NothingToRedo : Rz0 K a_NothingToRedo
  q_NothingToRedo : PySem.W.excIn K a_NothingToRedo [.type "ValueError", .type "Exception", .type "BaseException", .type "object"] "ValueError.__new__" = true
  rz_NothingToUndo : Rz0 K a_NothingToUndo
  q_NothingToUndo : PySem.W.excIn K a_NothingToUndo [.type "ValueError", .type "Exception", .type "BaseException", .type "object"] "ValueError.__new__" = true
  rz_TextError : RzI K a_TextError a_TextError fi_TextError ["line"]
  rz_TooDeep : RzI K a_TooDeep a_TextError fi_TextError ["line"]
  rz_TooLarge : Rz0 K a_TooLarge
  q_TooLarge : PySem.W.excIn K a_TooLarge [.type "ValueError", .type "Exception", .type "BaseException", .type "object"] "ValueError.__new__" = true
  rz_Unclosed : RzI K a_Unclosed a_TextError fi_TextError ["line"]
  rz_Unending : RzI K a_Unending a_Unending fi_Unending ["lane"]
  rz_Unreachable : RzI K a_Unreachable a_Unreachable fi_Unreachable ["node"]
  rz_WildProgram : RzI K a_WildProgram a_WildProgram fi_WildProgram ["node"]
  xt_ForeworthError : exmTab K [a_BadChange, a_BadDoors, a_BadJournal, a_BadLine, a_BadName, a_BadNode, a_BadOrder, a_BadPolicy, a_BadRing, a_BadRun, a_BadStart, a_BadStay, a_BadWord, a_BareLoop, a_DeskError, a_DuplicateMark, a_Incomplete, a_Misplaced, a_MixedGraphs, a_NameTaken, a_NoEnd, a_NoMark, a_NoProgram, a_NoTeam, a_NoWild, a_NotOver, a_NotStanding, a_NothingToRedo, a_NothingToUndo, a_TextError, a_TooDeep, a_TooLarge, a_Unclosed, a_Unending, a_Unreachable, a_WildProgram] a_ForeworthError = true
  tab : isTab K [a_BadChange, a_BadDoors, a_BadJournal, a_BadLine, a_BadName, a_BadNode, a_BadOrder, a_BadPolicy, a_BadRing, a_BadRun, a_BadStart, a_BadStay, a_BadWord, a_BareLoop, a_DeskError, a_DuplicateMark, a_Incomplete, a_Misplaced, a_MixedGraphs, a_NameTaken, a_NoEnd, a_NoMark, a_NoProgram, a_NoTeam, a_NoWild, a_NotOver, a_NotStanding, a_NothingToRedo, a_NothingToUndo, a_TextError, a_TooDeep, a_TooLarge, a_Unclosed, a_Unending, a_Unreachable, a_WildProgram] [.ref a_BadNode, .ref a_Unreachable, .ref a_NoEnd, .ref a_BadRing, .ref a_TextError, .ref a_BadLine, .ref a_Misplaced, .ref a_TooDeep, .ref a_DuplicateMark, .ref a_Unclosed, .ref a_NoMark, .ref a_BareLoop, .ref a_BadStart, .ref a_BadRun, .ref a_NotStanding, .ref a_Incomplete, .ref a_BadStay, .ref a_TooLarge, .ref a_WildProgram, .ref a_NoWild, .ref a_BadWord, .ref a_BadChange, .ref a_BadDoors, .ref a_BadOrder, .ref a_MixedGraphs, .ref a_NotOver, .ref a_DeskError, .ref a_BadName, .ref a_NameTaken, .ref a_NoProgram, .ref a_NoTeam, .ref a_Unending, .ref a_BadPolicy, .ref a_NothingToUndo, .ref a_NothingToRedo, .ref a_BadJournal, .type "ValueError"] [[false, false, false, false, false, false, false, false, false, false, false, false, false, false, false, false, false, false, false, false, false, true, false, false, false, false, false, false, false, false, false, false, false, false, false, false, true], [false, false, false, false, false, false, false, false, false, false, false, false, false, false, false, false, false, false, false, false, false, false, true, false, false, false, false, false, false, false, false, false, false, false, false, false, true], [false, false, false, false, false, false, false, false, false, false, false, false, false, false, false, false, false, false, false, false, false, false, false, false, false, false, true, false, false, false, false, false, false, false, false, true, true], [false, false, false, false, true, true, false, false, false, false, false, false, false, false, false, false, false, false, false, false, false, false, false, false, false, false, false, false, false, false, false, false, false, false, false, false, true], [false, false, false, false, false, false, false, false, false, false, false, false, false, false, false, false, false, false, false, false, false, false, false, false, false, false, true, true, false, false, false, false, false, false, false, false, true], [true, false, false, false, false, false, false, false, false, false, false, false, false, false, false, false, false, false, false, false, false, false, false, false, false, false, false, false, false, false, false, false, false, false, false, false, true], [false, false, false, false, false, false, false, false, false, false, false, false, false, false, false, false, false, false, false, false, false, false, false, true, false, false, false, false, false, false, false, false, false, false, false, false, true], [false, false, false, false, false, false, false, false, false, false, false, false, false, false, false, false, false, false, false, false, false, false, false, false, false, false, true, false, false, false, false, false, true, false, false, false, true], [false, false, false, true, false, false, false, false, false, false, false, false, false, false, false, false, false, false, false, false, false, false, false, false, false, false, false, false, false, false, false, false, false, false, false, false, true], [false, false, false, false, false, false, false, false, false, false, false, false, false, true, false, false, false, false, false, false, false, false, false, false, false, false, false, false, false, false, false, false, false, false, false, false, true], [false, false, false, false, false, false, false, false, false, false, false, false, true, false, false, false, false, false, false, false, false, false, false, false, false, false, false, false, false, false, false, false, false, false, false, false, true], [false, false, false, false, false, false, false, false, false, false, false, false, false, false, false, false, true, false, false, false, false, false, false, false, false, false, false, false, false, false, false, false, false, false, false, false, true], [false, false, false, false, false, false, false, false, false, false, false, false, false, false, false, false, false, false, false, false, true, false, false, false, false, false, false, false, false, false, false, false, false, false, false, false, true], [false, false, false, false, false, false, false, false, false, false, false, true, false, false, false, false, false, false, false, false, false, false, false, false, false, false, false, false, false, false, false, false, false, false, false, false, true], [false, false, false, false, false, false, false, false, false, false, false, false, false, false, false, false, false, false, false, false, false, false, false, false, false, false, true, false, false, false, false, false, false, false, false, false, true], [false, false, false, false, true, false, false, false, true, false, false, false, false, false, false, false, false, false, false, false, false, false, false, false, false, false, false, false, false, false, false, false, false, false, false, false, true], [false, false, false, false, false, false, false, false, false, false, false, false, false, false, false, true, false, false, false, false, false, false, false, false, false, false, false, false, false, false, false, false, false, false, false, false, true], [false, false, false, false, true, false, true, false, false, false, false, false, false, false, false, false, false, false, false, false, false, false, false, false, false, false, false, false, false, false, false, false, false, false, false, false, true], [false, false, false, false, false, false, false, false, false, false, false, false, false, false, false, false, false, false, false, false, false, false, false, false, true, false, false, false, false, false, false, false, false, false, false, false, true], [false, false, false, false, false, false, false, false, false, false, false, false, false, false, false, false, false, false, false, false, false, false, false, false, false, false, true, false, true, false, false, false, false, false, false, false, true], [false, false, true, false, false, false, false, false, false, false, false, false, false, false, false, false, false, false, false, false, false, false, false, false, false, false, false, false, false, false, false, false, false, false, false, false, true], [false, false, false, false, true, false, false, false, false, false, true, false, false, false, false, false, false, false, false, false, false, false, false, false, false, false, false, false, false, false, false, false, false, false, false, false, true], [false, false, false, false, false, false, false, false, false, false, false, false, false, false, false, false, false, false, false, false, false, false, false, false, false, false, true, false, false, true, false, false, false, false, false, false, true], [false, false, false, false, false, false, false, false, false, false, false, false, false, false, false, false, false, false, false, false, false, false, false, false, false, false, true, false, false, false, true, false, false, false, false, false, true], [false, false, false, false, false, false, false, false, false, false, false, false, false, false, false, false, false, false, false, true, false, false, false, false, false, false, false, false, false, false, false, false, false, false, false, false, true], [false, false, false, false, false, false, false, false, false, false, false, false, false, false, false, false, false, false, false, false, false, false, false, false, false, true, false, false, false, false, false, false, false, false, false, false, true], [false, false, false, false, false, false, false, false, false, false, false, false, false, false, true, false, false, false, false, false, false, false, false, false, false, false, false, false, false, false, false, false, false, false, false, false, true], [false, false, false, false, false, false, false, false, false, false, false, false, false, false, false, false, false, false, false, false, false, false, false, false, false, false, true, false, false, false, false, false, false, false, true, false, true], [false, false, false, false, false, false, false, false, false, false, false, false, false, false, false, false, false, false, false, false, false, false, false, false, false, false, true, false, false, false, false, false, false, true, false, false, true], [false, false, false, false, true, false, false, false, false, false, false, false, false, false, false, false, false, false, false, false, false, false, false, false, false, false, false, false, false, false, false, false, false, false, false, false, true], [false, false, false, false, true, false, false, true, false, false, false, false, false, false, false, false, false, false, false, false, false, false, false, false, false, false, false, false, false, false, false, false, false, false, false, false, true], [false, false, false, false, false, false, false, false, false, false, false, false, false, false, false, false, false, true, false, false, false, false, false, false, false, false, false, false, false, false, false, false, false, false, false, false, true], [false, false, false, false, true, false, false, false, false, true, false, false, false, false, false, false, false, false, false, false, false, false, false, false, false, false, false, false, false, false, false, false, false, false, false, false, true], [false, false, false, false, false, false, false, false, false, false, false, false, false, false, false, false, false, false, false, false, false, false, false, false, false, false, true, false, false, false, false, true, false, false, false, false, true], [false, true, false, false, false, false, false, false, false, false, false, false, false, false, false, false, false, false, false, false, false, false, false, false, false, false, false, false, false, false, false, false, false, false, false, false, true], [false, false, false, false, false, false, false, false, false, false, false, false, false, false, false, false, false, false, true, false, false, false, false, false, false, false, false, false, false, false, false, false, false, false, false, false, true]] = true
section
variable {P : Program} {w : World} {K : PySem.W.Frag} {base : Heap} {mg : Str → Option Value}
theorem ok_i_BadChange (T : Txt P K mg) : FnOk P w K mg base (L2N.CX P w) 1 T.fi_BadChange T.fd_i_BadChange ["self", "node"] (spI K T.a_BadChange ["node"]) :=
  fn_sup (k := 0) (qs := ["node"]) T.S_BadChange ⟨(show (defScope i_BadChange).names.lookup ("super" : Str) = some .globalImplicit by decide +kernel), (show (defScope i_BadChange).names.lookup ("__class__" : Str) = some .free by decide +kernel), (show (defScope i_BadChange).names.lookup ("self" : Str) = some .local by decide +kernel), rfl, ⟨_, rfl, rfl⟩⟩ (NdefX.nscope_by (sc := defScope i_BadChange) (by decide +kernel)) rfl T.z_super rfl (msg_js (List.forall_mem_cons.mpr ⟨(pc_c (by decide +kernel)), (List.forall_mem_cons.mpr ⟨(pc_f (j := 0) (by decide)), (by intro _ z; cases z)⟩)⟩) (by decide)) rest1 (fun A outer s H E => ⟨(pe_joined (.cons pe_str (.cons (pe_fmt (pe_var (i := 1) rfl (.inl rfl))) .nil))), (pss_one (ps_ost (pe_var (i := 0) rfl (.inl rfl)) (pe_var (i := 1) rfl (.inl rfl))))⟩) (fun env => rfl) (fun env => rfl)
theorem ok_i_BadJournal (T : Txt P K mg) : FnOk P w K mg base (L2N.CX P w) 1 T.fi_BadJournal T.fd_i_BadJournal ["self", "line"] (spI K T.a_BadJournal ["line"]) :=
  fn_sup (k := 0) (qs := ["line"]) T.S_BadJournal ⟨(show (defScope i_BadJournal).names.lookup ("super" : Str) = some .globalImplicit by decide +kernel), (show (defScope i_BadJournal).names.lookup ("__class__" : Str) = some .free by decide +kernel), (show (defScope i_BadJournal).names.lookup ("self" : Str) = some .local by decide +kernel), rfl, ⟨_, rfl, rfl⟩⟩ (NdefX.nscope_by (sc := defScope i_BadJournal) (by decide +kernel)) rfl T.z_super rfl (msg_js (List.forall_mem_cons.mpr ⟨(pc_c (by decide +kernel)), (List.forall_mem_cons.mpr ⟨(pc_f (j := 0) (by decide)), (by intro _ z; cases z)⟩)⟩) (by decide)) rest1 (fun A outer s H E => ⟨(pe_joined (.cons pe_str (.cons (pe_fmt (pe_var (i := 1) rfl (.inl rfl))) .nil))), (pss_one (ps_ost (pe_var (i := 0) rfl (.inl rfl)) (pe_var (i := 1) rfl (.inl rfl))))⟩) (fun env => rfl) (fun env => rfl)
theorem ok_i_BadName (T : Txt P K mg) : FnOk P w K mg base (L2N.CX P w) 1 T.fi_BadName T.fd_i_BadName ["self", "name"] (spI K T.a_BadName ["name"]) :=
  fn_sup (k := 0) (qs := ["name"]) T.S_BadName ⟨(show (defScope i_BadName).names.lookup ("super" : Str) = some .globalImplicit by decide +kernel), (show (defScope i_BadName).names.lookup ("__class__" : Str) = some .free by decide +kernel), (show (defScope i_BadName).names.lookup ("self" : Str) = some .local by decide +kernel), rfl, ⟨_, rfl, rfl⟩⟩ (NdefX.nscope_by (sc := defScope i_BadName) (by decide +kernel)) rfl T.z_super rfl (msg_js (List.forall_mem_cons.mpr ⟨(pc_c (by decide +kernel)), (List.forall_mem_cons.mpr ⟨(pc_f (j := 0) (by decide)), (by intro _ z; cases z)⟩)⟩) (by decide)) rest1 (fun A outer s H E => ⟨(pe_joined (.cons pe_str (.cons (pe_fmt (pe_var (i := 1) rfl (.inl rfl))) .nil))), (pss_one (ps_ost (pe_var (i := 0) rfl (.inl rfl)) (pe_var (i := 1) rfl (.inl rfl))))⟩) (fun env => rfl) (fun env => rfl)
theorem ok_i_BadNode (T : Txt P K mg) : FnOk P w K mg base (L2N.CX P w) 1 T.fi_BadNode T.fd_i_BadNode ["self", "node"] (spI K T.a_BadNode ["node"]) :=
  fn_sup (k := 0) (qs := ["node"]) T.S_BadNode ⟨(show (defScope i_BadNode).names.lookup ("super" : Str) = some .globalImplicit by decide +kernel), (show (defScope i_BadNode).names.lookup ("__class__" : Str) = some .free by decide +kernel), (show (defScope i_BadNode).names.lookup ("self" : Str) = some .local by decide +kernel), rfl, ⟨_, rfl, rfl⟩⟩ (NdefX.nscope_by (sc := defScope i_BadNode) (by decide +kernel)) rfl T.z_super rfl msg_c rest1 (fun A outer s H E => ⟨pe_str, (pss_one (ps_ost (pe_var (i := 0) rfl (.inl rfl)) (pe_var (i := 1) rfl (.inl rfl))))⟩) (fun env => rfl) (fun env => rfl)
theorem ok_i_BadPolicy (T : Txt P K mg) : FnOk P w K mg base (L2N.CX P w) 1 T.fi_BadPolicy T.fd_i_BadPolicy ["self", "name"] (spI K T.a_BadPolicy ["name"]) :=
  fn_sup (k := 0) (qs := ["name"]) T.S_BadPolicy ⟨(show (defScope i_BadPolicy).names.lookup ("super" : Str) = some .globalImplicit by decide +kernel), (show (defScope i_BadPolicy).names.lookup ("__class__" : Str) = some .free by decide +kernel), (show (defScope i_BadPolicy).names.lookup ("self" : Str) = some .local by decide +kernel), rfl, ⟨_, rfl, rfl⟩⟩ (NdefX.nscope_by (sc := defScope i_BadPolicy) (by decide +kernel)) rfl T.z_super rfl (msg_js (List.forall_mem_cons.mpr ⟨(pc_c (by decide +kernel)), (List.forall_mem_cons.mpr ⟨(pc_f (j := 0) (by decide)), (by intro _ z; cases z)⟩)⟩) (by decide)) rest1 (fun A outer s H E => ⟨(pe_joined (.cons pe_str (.cons (pe_fmt (pe_var (i := 1) rfl (.inl rfl))) .nil))), (pss_one (ps_ost (pe_var (i := 0) rfl (.inl rfl)) (pe_var (i := 1) rfl (.inl rfl))))⟩) (fun env => rfl) (fun env => rfl)
theorem ok_i_BadRun (T : Txt P K mg) : FnOk P w K mg base (L2N.CX P w) 1 T.fi_BadRun T.fd_i_BadRun ["self", "lane", "place"] (spI K T.a_BadRun ["lane", "place"]) :=
  fn_sup (k := 0) (qs := ["lane", "place"]) T.S_BadRun ⟨(show (defScope i_BadRun).names.lookup ("super" : Str) = some .globalImplicit by decide +kernel), (show (defScope i_BadRun).names.lookup ("__class__" : Str) = some .free by decide +kernel), (show (defScope i_BadRun).names.lookup ("self" : Str) = some .local by decide +kernel), rfl, ⟨_, rfl, rfl⟩⟩ (NdefX.nscope_by (sc := defScope i_BadRun) (by decide +kernel)) rfl T.z_super rfl (msg_js (List.forall_mem_cons.mpr ⟨(pc_c (by decide +kernel)), (List.forall_mem_cons.mpr ⟨(pc_f (j := 0) (by decide)), (List.forall_mem_cons.mpr ⟨(pc_c (by decide +kernel)), (List.forall_mem_cons.mpr ⟨(pc_f (j := 1) (by decide)), (by intro _ z; cases z)⟩)⟩)⟩)⟩) (by decide)) rest2 (fun A outer s H E => ⟨(pe_joined (.cons pe_str (.cons (pe_fmt (pe_var (i := 1) rfl (.inl rfl))) (.cons pe_str (.cons (pe_fmt (pe_var (i := 2) rfl (.inl rfl))) .nil))))), (pss_cons (ps_ost (pe_var (i := 0) rfl (.inl rfl)) (pe_var (i := 1) rfl (.inl rfl))) (pss_one (ps_ost (pe_var (i := 0) rfl (.inl rfl)) (pe_var (i := 2) rfl (.inl rfl)))))⟩) (fun env => rfl) (fun env => rfl)
theorem ok_i_BadStay (T : Txt P K mg) : FnOk P w K mg base (L2N.CX P w) 1 T.fi_BadStay T.fd_i_BadStay ["self", "place"] (spI K T.a_BadStay ["place"]) :=
  fn_sup (k := 0) (qs := ["place"]) T.S_BadStay ⟨(show (defScope i_BadStay).names.lookup ("super" : Str) = some .globalImplicit by decide +kernel), (show (defScope i_BadStay).names.lookup ("__class__" : Str) = some .free by decide +kernel), (show (defScope i_BadStay).names.lookup ("self" : Str) = some .local by decide +kernel), rfl, ⟨_, rfl, rfl⟩⟩ (NdefX.nscope_by (sc := defScope i_BadStay) (by decide +kernel)) rfl T.z_super rfl (msg_js (List.forall_mem_cons.mpr ⟨(pc_c (by decide +kernel)), (List.forall_mem_cons.mpr ⟨(pc_f (j := 0) (by decide)), (by intro _ z; cases z)⟩)⟩) (by decide)) rest1 (fun A outer s H E => ⟨(pe_joined (.cons pe_str (.cons (pe_fmt (pe_var (i := 1) rfl (.inl rfl))) .nil))), (pss_one (ps_ost (pe_var (i := 0) rfl (.inl rfl)) (pe_var (i := 1) rfl (.inl rfl))))⟩) (fun env => rfl) (fun env => rfl)
theorem ok_i_BareLoop (T : Txt P K mg) : FnOk P w K mg base (L2N.CX P w) 1 T.fi_BareLoop T.fd_i_BareLoop ["self", "statement"] (spI K T.a_BareLoop ["statement"]) :=
  fn_sup (k := 0) (qs := ["statement"]) T.S_BareLoop ⟨(show (defScope i_BareLoop).names.lookup ("super" : Str) = some .globalImplicit by decide +kernel), (show (defScope i_BareLoop).names.lookup ("__class__" : Str) = some .free by decide +kernel), (show (defScope i_BareLoop).names.lookup ("self" : Str) = some .local by decide +kernel), rfl, ⟨_, rfl, rfl⟩⟩ (NdefX.nscope_by (sc := defScope i_BareLoop) (by decide +kernel)) rfl T.z_super rfl (msg_js (List.forall_mem_cons.mpr ⟨(pc_c (by decide +kernel)), (List.forall_mem_cons.mpr ⟨(pc_f (j := 0) (by decide)), (List.forall_mem_cons.mpr ⟨(pc_c (by decide +kernel)), (by intro _ z; cases z)⟩)⟩)⟩) (by decide)) rest1 (fun A outer s H E => ⟨(pe_joined (.cons pe_str (.cons (pe_fmt (pe_var (i := 1) rfl (.inl rfl))) (.cons pe_str .nil)))), (pss_one (ps_ost (pe_var (i := 0) rfl (.inl rfl)) (pe_var (i := 1) rfl (.inl rfl))))⟩) (fun env => rfl) (fun env => rfl)
theorem ok_i_NameTaken (T : Txt P K mg) : FnOk P w K mg base (L2N.CX P w) 1 T.fi_NameTaken T.fd_i_NameTaken ["self", "name"] (spI K T.a_NameTaken ["name"]) :=
  fn_sup (k := 0) (qs := ["name"]) T.S_NameTaken ⟨(show (defScope i_NameTaken).names.lookup ("super" : Str) = some .globalImplicit by decide +kernel), (show (defScope i_NameTaken).names.lookup ("__class__" : Str) = some .free by decide +kernel), (show (defScope i_NameTaken).names.lookup ("self" : Str) = some .local by decide +kernel), rfl, ⟨_, rfl, rfl⟩⟩ (NdefX.nscope_by (sc := defScope i_NameTaken) (by decide +kernel)) rfl T.z_super rfl (msg_js (List.forall_mem_cons.mpr ⟨(pc_c (by decide +kernel)), (List.forall_mem_cons.mpr ⟨(pc_f (j := 0) (by decide)), (List.forall_mem_cons.mpr ⟨(pc_c (by decide +kernel)), (by intro _ z; cases z)⟩)⟩)⟩) (by decide)) rest1 (fun A outer s H E => ⟨(pe_joined (.cons pe_str (.cons (pe_fmt (pe_var (i := 1) rfl (.inl rfl))) (.cons pe_str .nil)))), (pss_one (ps_ost (pe_var (i := 0) rfl (.inl rfl)) (pe_var (i := 1) rfl (.inl rfl))))⟩) (fun env => rfl) (fun env => rfl)
theorem ok_i_NoEnd (T : Txt P K mg) : FnOk P w K mg base (L2N.CX P w) 1 T.fi_NoEnd T.fd_i_NoEnd ["self", "node"] (spI K T.a_NoEnd ["node"]) :=
  fn_sup (k := 0) (qs := ["node"]) T.S_NoEnd ⟨(show (defScope i_NoEnd).names.lookup ("super" : Str) = some .globalImplicit by decide +kernel), (show (defScope i_NoEnd).names.lookup ("__class__" : Str) = some .free by decide +kernel), (show (defScope i_NoEnd).names.lookup ("self" : Str) = some .local by decide +kernel), rfl, ⟨_, rfl, rfl⟩⟩ (NdefX.nscope_by (sc := defScope i_NoEnd) (by decide +kernel)) rfl T.z_super rfl (msg_js (List.forall_mem_cons.mpr ⟨(pc_c (by decide +kernel)), (List.forall_mem_cons.mpr ⟨(pc_f (j := 0) (by decide)), (List.forall_mem_cons.mpr ⟨(pc_c (by decide +kernel)), (by intro _ z; cases z)⟩)⟩)⟩) (by decide)) rest1 (fun A outer s H E => ⟨(pe_joined (.cons pe_str (.cons (pe_fmt (pe_var (i := 1) rfl (.inl rfl))) (.cons pe_str .nil)))), (pss_one (ps_ost (pe_var (i := 0) rfl (.inl rfl)) (pe_var (i := 1) rfl (.inl rfl))))⟩) (fun env => rfl) (fun env => rfl)
theorem ok_i_NoProgram (T : Txt P K mg) : FnOk P w K mg base (L2N.CX P w) 1 T.fi_NoProgram T.fd_i_NoProgram ["self", "name"] (spI K T.a_NoProgram ["name"]) :=
  fn_sup (k := 0) (qs := ["name"]) T.S_NoProgram ⟨(show (defScope i_NoProgram).names.lookup ("super" : Str) = some .globalImplicit by decide +kernel), (show (defScope i_NoProgram).names.lookup ("__class__" : Str) = some .free by decide +kernel), (show (defScope i_NoProgram).names.lookup ("self" : Str) = some .local by decide +kernel), rfl, ⟨_, rfl, rfl⟩⟩ (NdefX.nscope_by (sc := defScope i_NoProgram) (by decide +kernel)) rfl T.z_super rfl (msg_js (List.forall_mem_cons.mpr ⟨(pc_c (by decide +kernel)), (List.forall_mem_cons.mpr ⟨(pc_f (j := 0) (by decide)), (by intro _ z; cases z)⟩)⟩) (by decide)) rest1 (fun A outer s H E => ⟨(pe_joined (.cons pe_str (.cons (pe_fmt (pe_var (i := 1) rfl (.inl rfl))) .nil))), (pss_one (ps_ost (pe_var (i := 0) rfl (.inl rfl)) (pe_var (i := 1) rfl (.inl rfl))))⟩) (fun env => rfl) (fun env => rfl)
theorem ok_i_NoTeam (T : Txt P K mg) : FnOk P w K mg base (L2N.CX P w) 1 T.fi_NoTeam T.fd_i_NoTeam ["self", "name"] (spI K T.a_NoTeam ["name"]) :=
  fn_sup (k := 0) (qs := ["name"]) T.S_NoTeam ⟨(show (defScope i_NoTeam).names.lookup ("super" : Str) = some .globalImplicit by decide +kernel), (show (defScope i_NoTeam).names.lookup ("__class__" : Str) = some .free by decide +kernel), (show (defScope i_NoTeam).names.lookup ("self" : Str) = some .local by decide +kernel), rfl, ⟨_, rfl, rfl⟩⟩ (NdefX.nscope_by (sc := defScope i_NoTeam) (by decide +kernel)) rfl T.z_super rfl (msg_js (List.forall_mem_cons.mpr ⟨(pc_c (by decide +kernel)), (List.forall_mem_cons.mpr ⟨(pc_f (j := 0) (by decide)), (by intro _ z; cases z)⟩)⟩) (by decide)) rest1 (fun A outer s H E => ⟨(pe_joined (.cons pe_str (.cons (pe_fmt (pe_var (i := 1) rfl (.inl rfl))) .nil))), (pss_one (ps_ost (pe_var (i := 0) rfl (.inl rfl)) (pe_var (i := 1) rfl (.inl rfl))))⟩) (fun env => rfl) (fun env => rfl)
theorem ok_i_NotStanding (T : Txt P K mg) : FnOk P w K mg base (L2N.CX P w) 1 T.fi_NotStanding T.fd_i_NotStanding ["self", "node"] (spI K T.a_NotStanding ["node"]) :=
  fn_sup (k := 0) (qs := ["node"]) T.S_NotStanding ⟨(show (defScope i_NotStanding).names.lookup ("super" : Str) = some .globalImplicit by decide +kernel), (show (defScope i_NotStanding).names.lookup ("__class__" : Str) = some .free by decide +kernel), (show (defScope i_NotStanding).names.lookup ("self" : Str) = some .local by decide +kernel), rfl, ⟨_, rfl, rfl⟩⟩ (NdefX.nscope_by (sc := defScope i_NotStanding) (by decide +kernel)) rfl T.z_super rfl msg_c rest1 (fun A outer s H E => ⟨pe_str, (pss_one (ps_ost (pe_var (i := 0) rfl (.inl rfl)) (pe_var (i := 1) rfl (.inl rfl))))⟩) (fun env => rfl) (fun env => rfl)
theorem ok_i_TextError (T : Txt P K mg) : FnOk P w K mg base (L2N.CX P w) 1 T.fi_TextError T.fd_i_TextError ["self", "line"] (spI K T.a_TextError ["line"]) :=
  fn_sup (k := 0) (qs := ["line"]) T.S_TextError ⟨(show (defScope i_TextError).names.lookup ("super" : Str) = some .globalImplicit by decide +kernel), (show (defScope i_TextError).names.lookup ("__class__" : Str) = some .free by decide +kernel), (show (defScope i_TextError).names.lookup ("self" : Str) = some .local by decide +kernel), rfl, ⟨_, rfl, rfl⟩⟩ (NdefX.nscope_by (sc := defScope i_TextError) (by decide +kernel)) rfl T.z_super rfl (msg_js (List.forall_mem_cons.mpr ⟨(pc_c (by decide +kernel)), (List.forall_mem_cons.mpr ⟨(pc_f (j := 0) (by decide)), (by intro _ z; cases z)⟩)⟩) (by decide)) rest1 (fun A outer s H E => ⟨(pe_joined (.cons pe_str (.cons (pe_fmt (pe_var (i := 1) rfl (.inl rfl))) .nil))), (pss_one (ps_ost (pe_var (i := 0) rfl (.inl rfl)) (pe_var (i := 1) rfl (.inl rfl))))⟩) (fun env => rfl) (fun env => rfl)
theorem ok_i_Unending (T : Txt P K mg) : FnOk P w K mg base (L2N.CX P w) 1 T.fi_Unending T.fd_i_Unending ["self", "lane"] (spI K T.a_Unending ["lane"]) :=
  fn_sup (k := 0) (qs := ["lane"]) T.S_Unending ⟨(show (defScope i_Unending).names.lookup ("super" : Str) = some .globalImplicit by decide +kernel), (show (defScope i_Unending).names.lookup ("__class__" : Str) = some .free by decide +kernel), (show (defScope i_Unending).names.lookup ("self" : Str) = some .local by decide +kernel), rfl, ⟨_, rfl, rfl⟩⟩ (NdefX.nscope_by (sc := defScope i_Unending) (by decide +kernel)) rfl T.z_super rfl (msg_js (List.forall_mem_cons.mpr ⟨(pc_c (by decide +kernel)), (List.forall_mem_cons.mpr ⟨(pc_f (j := 0) (by decide)), (List.forall_mem_cons.mpr ⟨(pc_c (by decide +kernel)), (by intro _ z; cases z)⟩)⟩)⟩) (by decide)) rest1 (fun A outer s H E => ⟨(pe_joined (.cons pe_str (.cons (pe_fmt (pe_var (i := 1) rfl (.inl rfl))) (.cons pe_str .nil)))), (pss_one (ps_ost (pe_var (i := 0) rfl (.inl rfl)) (pe_var (i := 1) rfl (.inl rfl))))⟩) (fun env => rfl) (fun env => rfl)
theorem ok_i_Unreachable (T : Txt P K mg) : FnOk P w K mg base (L2N.CX P w) 1 T.fi_Unreachable T.fd_i_Unreachable ["self", "node"] (spI K T.a_Unreachable ["node"]) :=
  fn_sup (k := 0) (qs := ["node"]) T.S_Unreachable ⟨(show (defScope i_Unreachable).names.lookup ("super" : Str) = some .globalImplicit by decide +kernel), (show (defScope i_Unreachable).names.lookup ("__class__" : Str) = some .free by decide +kernel), (show (defScope i_Unreachable).names.lookup ("self" : Str) = some .local by decide +kernel), rfl, ⟨_, rfl, rfl⟩⟩ (NdefX.nscope_by (sc := defScope i_Unreachable) (by decide +kernel)) rfl T.z_super rfl (msg_js (List.forall_mem_cons.mpr ⟨(pc_c (by decide +kernel)), (List.forall_mem_cons.mpr ⟨(pc_f (j := 0) (by decide)), (by intro _ z; cases z)⟩)⟩) (by decide)) rest1 (fun A outer s H E => ⟨(pe_joined (.cons pe_str (.cons (pe_fmt (pe_var (i := 1) rfl (.inl rfl))) .nil))), (pss_one (ps_ost (pe_var (i := 0) rfl (.inl rfl)) (pe_var (i := 1) rfl (.inl rfl))))⟩) (fun env => rfl) (fun env => rfl)
theorem ok_i_WildProgram (T : Txt P K mg) : FnOk P w K mg base (L2N.CX P w) 1 T.fi_WildProgram T.fd_i_WildProgram ["self", "node"] (spI K T.a_WildProgram ["node"]) :=
  fn_sup (k := 0) (qs := ["node"]) T.S_WildProgram ⟨(show (defScope i_WildProgram).names.lookup ("super" : Str) = some .globalImplicit by decide +kernel), (show (defScope i_WildProgram).names.lookup ("__class__" : Str) = some .free by decide +kernel), (show (defScope i_WildProgram).names.lookup ("self" : Str) = some .local by decide +kernel), rfl, ⟨_, rfl, rfl⟩⟩ (NdefX.nscope_by (sc := defScope i_WildProgram) (by decide +kernel)) rfl T.z_super rfl (msg_js (List.forall_mem_cons.mpr ⟨(pc_c (by decide +kernel)), (List.forall_mem_cons.mpr ⟨(pc_f (j := 0) (by decide)), (List.forall_mem_cons.mpr ⟨(pc_c (by decide +kernel)), (by intro _ z; cases z)⟩)⟩)⟩) (by decide)) rest1 (fun A outer s H E => ⟨(pe_joined (.cons pe_str (.cons (pe_fmt (pe_var (i := 1) rfl (.inl rfl))) (.cons pe_str .nil)))), (pss_one (ps_ost (pe_var (i := 0) rfl (.inl rfl)) (pe_var (i := 1) rfl (.inl rfl))))⟩) (fun env => rfl) (fun env => rfl)
/-! ### _law_cell -/
theorem sc_law_cell : FnScope ["_law_script", "_law_k"] ["_law_script", "_law_k"] (defScope s_law_cell) := ⟨rfl, rfl, rfl, by decide +kernel, rfl, by decide +kernel, by decide +kernel⟩
noncomputable def c_law_cell : SM :=
  (sSeq (sIf (eTest (eOp gLt (eVar 1) (eCall gLen (aCons (eVar 0) aNil))))
  (sRet (own0 (eCall gAbs (aCons (eIx (eVar 0) (eVar 1)) aNil))))
  sNext)
  (sRet (own0 (eC (.int 0)))))
noncomputable def m_law_cell : FM := fnM 2 2 c_law_cell
theorem ok_law_cell (T : Txt P K mg) : FnOk P w K mg base (L2N.CX P w) 1 T.a_law_cell T.fd_law_cell ["_law_script", "_law_k"] (spM K m_law_cell) :=
  fn_okM (k := 0) (F := c_law_cell) 2 2 rfl rfl T.F_law_cell sc_law_cell fun cdv A outer s H E hr => by
    unfold c_law_cell 
    exact (ss_cons (s_if (t_cmp op_lt ok_lt (b_var 1) (b_len (by rfl) T.z_len (ah_cons (b_var 0) ah_nil)) (nomark _)) (ss_one (s_ret (m_of_b (b_abs (by rfl) T.z_abs (ah_cons (b_ix (b_var 0) (b_var 1)) ah_nil))))) ss_nil)
    (ss_one (s_ret (m_of_b b_int))))
/-! ### _law_digits -/
theorem sc_law_digits : FnScope ["_law_cell_here", "_law_count", "_law_size", "_law_row", "_law_rest", "_law_k", "_law_mixed"] ["_law_cell_here", "_law_count", "_law_size"] (defScope s_law_digits) := ⟨rfl, rfl, rfl, by decide +kernel, rfl, by decide +kernel, by decide +kernel⟩
noncomputable def c_law_digits_1 : SM :=
  (sIf (tyAnd (eTest (eOp gGe (eVar 0) (eOp gPow (eC (.int 10)) (eC (.int 18))))) (eTest (eOp gGt (eVar 4) (eC (.int 0)))))
  (sSeq (sApp 3 (own0 (eOp gMod (eCall gToInt (aCons (eVar 4) aNil)) (eVar 2))))
  (sAsg 4 (own0 (eOp gDiv (eVar 4) (eVar 2)))))
  (sSeq (sAsg 6 (own0 (eOp gMod (eCall gToInt (aCons (eOp gAdd (eOp gAdd (eVar 0) (eOp gMul (eC (.int 7919)) (eVar 5))) (eC (.int 13))) aNil)) (eC (.int 2147483647)))))
  (sSeq (sAsg 6 (own0 (eOp gMod (eCall gToInt (aCons (eOp gMul (eVar 6) (eOp gAdd (eVar 6) (eC (.int 48271)))) aNil)) (eC (.int 2147483629)))))
  (sSeq (sAsg 6 (own0 (eOp gMod (eCall gToInt (aCons (eOp gAdd (eOp gMul (eVar 6) (eOp gAdd (eVar 6) (eC (.int 69621)))) (eOp gMul (eC (.int 31)) (eVar 5))) aNil)) (eC (.int 2147483647)))))
  (sApp 3 (own0 (eOp gMod (eCall gToInt (aCons (eOp gDiv (eVar 6) (eC (.int 9))) aNil)) (eVar 2))))))))
noncomputable def c_law_digits : SM :=
  (sSeq (sAsg 3 (eLst aNil))
  (sSeq (sAsg 4 (own0 (eVar 0)))
  (sSeq (sFor (iRg1 (aCons (eVar 1) aNil)) (tgName 5) c_law_digits_1)
  (sRetV 3))))
noncomputable def m_law_digits : FM := fnM 3 7 c_law_digits
theorem ok_law_digits (T : Txt P K mg) : FnOk P w K mg base (L2N.CX P w) 1 T.a_law_digits T.fd_law_digits ["_law_cell_here", "_law_count", "_law_size"] (spM K m_law_digits) :=
  fn_okM (k := 0) (F := c_law_digits) 3 7 rfl rfl T.F_law_digits sc_law_digits fun cdv A outer s H E hr => by
    unfold c_law_digits c_law_digits_1
    exact (ss_cons (s_set (i := 3) sc_law_digits.nd rfl (Or.inl rfl) (m_lst a_nil))
    (ss_cons (s_set (i := 4) sc_law_digits.nd rfl (Or.inl rfl) (m_of_b (b_var 0)))
    (ss_cons (s_for passes_cx rfl (i_range1 (by rfl) T.z_range (ah_cons (b_var 1) ah_nil)) (pg_name (i := 5) sc_law_digits.nd rfl (Or.inl rfl)) tg_name (ss_one (s_if (PW.pt (w_and (t_cmp op_ge ok_ge (b_var 0) (b_pow b_int b_int) (nomark _)) (w_and1 (t_cmp op_gt ok_gt (b_var 4) b_int (nomark _))))) (ss_cons (s_app 3 (m_of_b (b_mod (b_toInt (by rfl) T.z_int (ah_cons (b_var 4) ah_nil)) (b_var 2))))
    (ss_one (s_set (i := 4) sc_law_digits.nd rfl (Or.inl rfl) (m_of_b (b_div (b_var 4) (b_var 2)))))) (ss_cons (s_set (i := 6) sc_law_digits.nd rfl (Or.inl rfl) (m_of_b (b_mod (b_toInt (by rfl) T.z_int (ah_cons (b_add (b_add (b_var 0) (b_mul b_int (b_var 5))) b_int) ah_nil)) b_int)))
    (ss_cons (s_set (i := 6) sc_law_digits.nd rfl (Or.inl rfl) (m_of_b (b_mod (b_toInt (by rfl) T.z_int (ah_cons (b_mul (b_var 6) (b_add (b_var 6) b_int)) ah_nil)) b_int)))
    (ss_cons (s_set (i := 6) sc_law_digits.nd rfl (Or.inl rfl) (m_of_b (b_mod (b_toInt (by rfl) T.z_int (ah_cons (b_add (b_mul (b_var 6) (b_add (b_var 6) b_int)) (b_mul b_int (b_var 5))) ah_nil)) b_int)))
    (ss_one (s_app 3 (m_of_b (b_mod (b_toInt (by rfl) T.z_int (ah_cons (b_div (b_var 6) b_int) ah_nil)) (b_var 2)))))))))))
    (ss_one (s_retV 3)))))
/-! ### _law_seed -/
theorem sc_law_seed : FnScope ["_law_script", "_law_k"] ["_law_script", "_law_k"] (defScope s_law_seed) := ⟨rfl, rfl, rfl, by decide +kernel, rfl, by decide +kernel, by decide +kernel⟩
noncomputable def c_law_seed : SM :=
  (sSeq (sIf (eTest (eOp gLt (eVar 1) (eCall gLen (aCons (eVar 0) aNil))))
  (sRet (own0 (eCall gAbs (aCons (eIx (eVar 0) (eVar 1)) aNil))))
  sNext)
  (sRet (own0 (eIx (frzE (eFn m_law_digits (a0Cons (eOp gAdd (eOp gAdd (eFnF m_law_cell (aCons (eVar 0) (aCons (eC (.int 0)) aNil))) (eOp gMul (eC (.int 101)) (eVar 1))) (eC (.int 7))) (a0Cons (eC (.int 1)) (a0Cons (eOp gPow (eC (.int 10)) (eC (.int 9))) aNil))))) (eC (.int 0))))))
noncomputable def m_law_seed : FM := fnM 2 2 c_law_seed
theorem ok_law_seed (T : Txt P K mg) : FnOk P w K mg base (L2N.CX P w) 2 T.a_law_seed T.fd_law_seed ["_law_script", "_law_k"] (spM K m_law_seed) :=
  fn_okM (k := 1) (F := c_law_seed) 2 2 rfl rfl T.F_law_seed sc_law_seed fun cdv A outer s H E hr => by
    unfold c_law_seed 
    exact (ss_cons (s_if (t_cmp op_lt ok_lt (b_var 1) (b_len (by rfl) T.z_len (ah_cons (b_var 0) ah_nil)) (nomark _)) (ss_one (s_ret (m_of_b (b_abs (by rfl) T.z_abs (ah_cons (b_ix (b_var 0) (b_var 1)) ah_nil))))) ss_nil)
    (ss_one (s_ret (m_of_b (b_ix (b_of_m (m_call (ok_law_digits T) takes_cx (hr.mono (by decide)) (by rfl) T.g_law_digits T.k_law_digits T.b_law_digits (a_cons (b_add (b_add (b_callF (ok_law_cell T) takes_cx (hr.mono (by decide)) (by rfl) T.g_law_cell T.k_law_cell T.b_law_cell (ah_cons (b_var 0) (ah_cons b_int ah_nil))) (b_mul b_int (b_var 1))) b_int) (a_cons b_int (a_cons (b_pow b_int b_int) a_nil))))) b_int)))))
/-! ### _law_is_int -/
theorem sc_law_is_int : FnScope ["_law_value"] ["_law_value"] (defScope s_law_is_int) := ⟨rfl, rfl, rfl, by decide +kernel, rfl, by decide +kernel, by decide +kernel⟩
noncomputable def c_law_is_int (T : Txt P K mg) (a0 : Ha) (e0 : Exo) : SM :=
  (sRet (own0 (eAnd (eUn (gIsi "int") (eVar 0)) (eNot (eUn (gIsi "bool") (eVar 0))))))
noncomputable def m_law_is_int (T : Txt P K mg) (a0 : Ha) (e0 : Exo) : FM := fnM 1 1 (c_law_is_int T a0 e0)
theorem ok_law_is_int (T : Txt P K mg) : FnX P w K mg base (L2N.CX P w) 1 T.a_law_is_int T.fd_law_is_int ["_law_value"] (spX K (m_law_is_int T)) :=
  fn_okX (k := 0) (F := c_law_is_int T) 1 1 rfl rfl T.F_law_is_int sc_law_is_int fun cdv A outer s H E p0 e0 b0 hr hh => by
    unfold c_law_is_int 
    exact (ss_one (s_ret (m_of_b (b_and (b_isi "int" (by rfl) T.z_isinstance (by rfl) T.z_int (by decide +kernel) (b_var 0)) (b_one (b_not (b_isi "bool" (by rfl) T.z_isinstance (by rfl) T.z_bool (by decide +kernel) (b_var 0))))))))
/-! ### _law_first -/
theorem sc_law_first : FnScope ["_law_k", "_law_one", "_law_two"] ["_law_k", "_law_one", "_law_two"] (defScope s_law_first) := ⟨rfl, rfl, rfl, by decide +kernel, rfl, by decide +kernel, by decide +kernel⟩
noncomputable def c_law_first (T : Txt P K mg) : SM :=
  (sSeq (sIf (eTest (eOp gEq (eVar 0) (eC (.int 0))))
  (sRaiseI T.a_BadNode ["node"] (aCons (eVar 1) aNil))
  sNext)
  (sSeq (sIf (eTest (eOp gEq (eVar 0) (eC (.int 1))))
  (sRaiseI T.a_Unreachable ["node"] (aCons (eVar 1) aNil))
  sNext)
  (sSeq (sIf (eTest (eOp gEq (eVar 0) (eC (.int 2))))
  (sRaiseI T.a_NoEnd ["node"] (aCons (eVar 1) aNil))
  sNext)
  (sSeq (sIf (eTest (eOp gEq (eVar 0) (eC (.int 3))))
  (sRaise ⟨T.a_BadRing, none⟩)
  sNext)
  (sSeq (sIf (eTest (eOp gEq (eVar 0) (eC (.int 4))))
  (sRaiseI T.a_TextError ["line"] (aCons (eVar 1) aNil))
  sNext)
  (sSeq (sIf (eTest (eOp gEq (eVar 0) (eC (.int 5))))
  (sRaiseI T.a_BadLine ["line"] (aCons (eVar 1) aNil))
  sNext)
  (sSeq (sIf (eTest (eOp gEq (eVar 0) (eC (.int 6))))
  (sRaiseI T.a_Misplaced ["line"] (aCons (eVar 1) aNil))
  sNext)
  (sSeq (sIf (eTest (eOp gEq (eVar 0) (eC (.int 7))))
  (sRaiseI T.a_TooDeep ["line"] (aCons (eVar 1) aNil))
  sNext)
  (sSeq (sIf (eTest (eOp gEq (eVar 0) (eC (.int 8))))
  (sRaiseI T.a_DuplicateMark ["line"] (aCons (eVar 1) aNil))
  sNext)
  (sSeq (sIf (eTest (eOp gEq (eVar 0) (eC (.int 9))))
  (sRaiseI T.a_Unclosed ["line"] (aCons (eVar 1) aNil))
  sNext)
  (sSeq (sIf (eTest (eOp gEq (eVar 0) (eC (.int 10))))
  (sRaiseI T.a_NoMark ["line"] (aCons (eVar 1) aNil))
  sNext)
  (sSeq (sIf (eTest (eOp gEq (eVar 0) (eC (.int 11))))
  (sRaiseI T.a_BareLoop ["statement"] (aCons (eVar 1) aNil))
  sNext)
  (sSeq (sIf (eTest (eOp gEq (eVar 0) (eC (.int 12))))
  (sRaise ⟨T.a_BadStart, none⟩)
  sNext)
  (sSeq (sIf (eTest (eOp gEq (eVar 0) (eC (.int 13))))
  (sRaiseI T.a_BadRun ["lane", "place"] (aCons (eVar 1) (aCons (eVar 2) aNil)))
  sNext)
  (sSeq (sIf (eTest (eOp gEq (eVar 0) (eC (.int 14))))
  (sRaiseI T.a_NotStanding ["node"] (aCons (eVar 1) aNil))
  sNext)
  (sSeq (sIf (eTest (eOp gEq (eVar 0) (eC (.int 15))))
  (sRaise ⟨T.a_Incomplete, none⟩)
  sNext)
  (sSeq (sIf (eTest (eOp gEq (eVar 0) (eC (.int 16))))
  (sRaiseI T.a_BadStay ["place"] (aCons (eVar 1) aNil))
  sNext)
  (sSeq (sIf (eTest (eOp gEq (eVar 0) (eC (.int 17))))
  (sRaise ⟨T.a_TooLarge, none⟩)
  sNext)
  (sSeq (sIf (eTest (eOp gEq (eVar 0) (eC (.int 18))))
  (sRaiseI T.a_WildProgram ["node"] (aCons (eVar 1) aNil))
  sNext)
  (sRet (own0 (eC .non))))))))))))))))))))))
noncomputable def m_law_first (T : Txt P K mg) : FM := fnM 3 3 (c_law_first T)
theorem ok_law_first (T : Txt P K mg) : FnOk P w K mg base (L2N.CX P w) 3 T.a_law_first T.fd_law_first ["_law_k", "_law_one", "_law_two"] (spM K (m_law_first T)) :=
  fn_okM (k := 2) (F := (c_law_first T)) 3 3 rfl rfl T.F_law_first sc_law_first fun cdv A outer s H E hr => by
    unfold c_law_first 
    exact (ss_cons (s_if (t_cmp (op_eqA (units_cx hr)) ok_eq (b_var 0) b_int (nomark _)) (ss_one (s_raiseI rfl takes_cx T.rz_BadNode.T T.rz_BadNode.SC T.rz_BadNode.no T.rz_BadNode.iC T.tI_BadNode (ok_i_BadNode T) (hr.mono (by decide)) T.bi_BadNode (passes_no takes_cx) (by rfl) T.g_BadNode (ah_cons (b_var 1) ah_nil))) ss_nil)
    (ss_cons (s_if (t_cmp (op_eqA (units_cx hr)) ok_eq (b_var 0) b_int (nomark _)) (ss_one (s_raiseI rfl takes_cx T.rz_Unreachable.T T.rz_Unreachable.SC T.rz_Unreachable.no T.rz_Unreachable.iC T.tI_Unreachable (ok_i_Unreachable T) (hr.mono (by decide)) T.bi_Unreachable (passes_no takes_cx) (by rfl) T.g_Unreachable (ah_cons (b_var 1) ah_nil))) ss_nil)
    (ss_cons (s_if (t_cmp (op_eqA (units_cx hr)) ok_eq (b_var 0) b_int (nomark _)) (ss_one (s_raiseI rfl takes_cx T.rz_NoEnd.T T.rz_NoEnd.SC T.rz_NoEnd.no T.rz_NoEnd.iC T.tI_NoEnd (ok_i_NoEnd T) (hr.mono (by decide)) T.bi_NoEnd (passes_no takes_cx) (by rfl) T.g_NoEnd (ah_cons (b_var 1) ah_nil))) ss_nil)
    (ss_cons (s_if (t_cmp (op_eqA (units_cx hr)) ok_eq (b_var 0) b_int (nomark _)) (ss_one (s_raise0 rfl takes_cx PySem.F.excBase_ValueError T.q_BadRing T.g_BadRing T.rz_BadRing.k T.rz_BadRing.sb T.rz_BadRing.ty (by rfl))) ss_nil)
    (ss_cons (s_if (t_cmp (op_eqA (units_cx hr)) ok_eq (b_var 0) b_int (nomark _)) (ss_one (s_raiseI rfl takes_cx T.rz_TextError.T T.rz_TextError.SC T.rz_TextError.no T.rz_TextError.iC T.tI_TextError (ok_i_TextError T) (hr.mono (by decide)) T.bi_TextError (passes_no takes_cx) (by rfl) T.g_TextError (ah_cons (b_var 1) ah_nil))) ss_nil)
    (ss_cons (s_if (t_cmp (op_eqA (units_cx hr)) ok_eq (b_var 0) b_int (nomark _)) (ss_one (s_raiseI rfl takes_cx T.rz_BadLine.T T.rz_BadLine.SC T.rz_BadLine.no T.rz_BadLine.iC T.tI_TextError (ok_i_TextError T) (hr.mono (by decide)) T.bi_TextError (passes_no takes_cx) (by rfl) T.g_BadLine (ah_cons (b_var 1) ah_nil))) ss_nil)
    (ss_cons (s_if (t_cmp (op_eqA (units_cx hr)) ok_eq (b_var 0) b_int (nomark _)) (ss_one (s_raiseI rfl takes_cx T.rz_Misplaced.T T.rz_Misplaced.SC T.rz_Misplaced.no T.rz_Misplaced.iC T.tI_TextError (ok_i_TextError T) (hr.mono (by decide)) T.bi_TextError (passes_no takes_cx) (by rfl) T.g_Misplaced (ah_cons (b_var 1) ah_nil))) ss_nil)
    (ss_cons (s_if (t_cmp (op_eqA (units_cx hr)) ok_eq (b_var 0) b_int (nomark _)) (ss_one (s_raiseI rfl takes_cx T.rz_TooDeep.T T.rz_TooDeep.SC T.rz_TooDeep.no T.rz_TooDeep.iC T.tI_TextError (ok_i_TextError T) (hr.mono (by decide)) T.bi_TextError (passes_no takes_cx) (by rfl) T.g_TooDeep (ah_cons (b_var 1) ah_nil))) ss_nil)
    (ss_cons (s_if (t_cmp (op_eqA (units_cx hr)) ok_eq (b_var 0) b_int (nomark _)) (ss_one (s_raiseI rfl takes_cx T.rz_DuplicateMark.T T.rz_DuplicateMark.SC T.rz_DuplicateMark.no T.rz_DuplicateMark.iC T.tI_TextError (ok_i_TextError T) (hr.mono (by decide)) T.bi_TextError (passes_no takes_cx) (by rfl) T.g_DuplicateMark (ah_cons (b_var 1) ah_nil))) ss_nil)
    (ss_cons (s_if (t_cmp (op_eqA (units_cx hr)) ok_eq (b_var 0) b_int (nomark _)) (ss_one (s_raiseI rfl takes_cx T.rz_Unclosed.T T.rz_Unclosed.SC T.rz_Unclosed.no T.rz_Unclosed.iC T.tI_TextError (ok_i_TextError T) (hr.mono (by decide)) T.bi_TextError (passes_no takes_cx) (by rfl) T.g_Unclosed (ah_cons (b_var 1) ah_nil))) ss_nil)
    (ss_cons (s_if (t_cmp (op_eqA (units_cx hr)) ok_eq (b_var 0) b_int (nomark _)) (ss_one (s_raiseI rfl takes_cx T.rz_NoMark.T T.rz_NoMark.SC T.rz_NoMark.no T.rz_NoMark.iC T.tI_TextError (ok_i_TextError T) (hr.mono (by decide)) T.bi_TextError (passes_no takes_cx) (by rfl) T.g_NoMark (ah_cons (b_var 1) ah_nil))) ss_nil)
    (ss_cons (s_if (t_cmp (op_eqA (units_cx hr)) ok_eq (b_var 0) b_int (nomark _)) (ss_one (s_raiseI rfl takes_cx T.rz_BareLoop.T T.rz_BareLoop.SC T.rz_BareLoop.no T.rz_BareLoop.iC T.tI_BareLoop (ok_i_BareLoop T) (hr.mono (by decide)) T.bi_BareLoop (passes_no takes_cx) (by rfl) T.g_BareLoop (ah_cons (b_var 1) ah_nil))) ss_nil)
    (ss_cons (s_if (t_cmp (op_eqA (units_cx hr)) ok_eq (b_var 0) b_int (nomark _)) (ss_one (s_raise0 rfl takes_cx PySem.F.excBase_ValueError T.q_BadStart T.g_BadStart T.rz_BadStart.k T.rz_BadStart.sb T.rz_BadStart.ty (by rfl))) ss_nil)
    (ss_cons (s_if (t_cmp (op_eqA (units_cx hr)) ok_eq (b_var 0) b_int (nomark _)) (ss_one (s_raiseI rfl takes_cx T.rz_BadRun.T T.rz_BadRun.SC T.rz_BadRun.no T.rz_BadRun.iC T.tI_BadRun (ok_i_BadRun T) (hr.mono (by decide)) T.bi_BadRun (passes_no takes_cx) (by rfl) T.g_BadRun (ah_cons (b_var 1) (ah_cons (b_var 2) ah_nil)))) ss_nil)
    (ss_cons (s_if (t_cmp (op_eqA (units_cx hr)) ok_eq (b_var 0) b_int (nomark _)) (ss_one (s_raiseI rfl takes_cx T.rz_NotStanding.T T.rz_NotStanding.SC T.rz_NotStanding.no T.rz_NotStanding.iC T.tI_NotStanding (ok_i_NotStanding T) (hr.mono (by decide)) T.bi_NotStanding (passes_no takes_cx) (by rfl) T.g_NotStanding (ah_cons (b_var 1) ah_nil))) ss_nil)
    (ss_cons (s_if (t_cmp (op_eqA (units_cx hr)) ok_eq (b_var 0) b_int (nomark _)) (ss_one (s_raise0 rfl takes_cx PySem.F.excBase_ValueError T.q_Incomplete T.g_Incomplete T.rz_Incomplete.k T.rz_Incomplete.sb T.rz_Incomplete.ty (by rfl))) ss_nil)
    (ss_cons (s_if (t_cmp (op_eqA (units_cx hr)) ok_eq (b_var 0) b_int (nomark _)) (ss_one (s_raiseI rfl takes_cx T.rz_BadStay.T T.rz_BadStay.SC T.rz_BadStay.no T.rz_BadStay.iC T.tI_BadStay (ok_i_BadStay T) (hr.mono (by decide)) T.bi_BadStay (passes_no takes_cx) (by rfl) T.g_BadStay (ah_cons (b_var 1) ah_nil))) ss_nil)
    (ss_cons (s_if (t_cmp (op_eqA (units_cx hr)) ok_eq (b_var 0) b_int (nomark _)) (ss_one (s_raise0 rfl takes_cx PySem.F.excBase_ValueError T.q_TooLarge T.g_TooLarge T.rz_TooLarge.k T.rz_TooLarge.sb T.rz_TooLarge.ty (by rfl))) ss_nil)
    (ss_cons (s_if (t_cmp (op_eqA (units_cx hr)) ok_eq (b_var 0) b_int (nomark _)) (ss_one (s_raiseI rfl takes_cx T.rz_WildProgram.T T.rz_WildProgram.SC T.rz_WildProgram.no T.rz_WildProgram.iC T.tI_WildProgram (ok_i_WildProgram T) (hr.mono (by decide)) T.bi_WildProgram (passes_no takes_cx) (by rfl) T.g_WildProgram (ah_cons (b_var 1) ah_nil))) ss_nil)
    (ss_one (s_ret (m_of_b b_non))))))))))))))))))))))
/-! ### _law_second -/
theorem sc_law_second : FnScope ["_law_k", "_law_one", "_law_text_here"] ["_law_k", "_law_one", "_law_text_here"] (defScope s_law_second) := ⟨rfl, rfl, rfl, by decide +kernel, rfl, by decide +kernel, by decide +kernel⟩
noncomputable def c_law_second (T : Txt P K mg) : SM :=
  (sSeq (sIf (eTest (eOp gEq (eVar 0) (eC (.int 19))))
  (sRaise ⟨T.a_NoWild, none⟩)
  sNext)
  (sSeq (sIf (eTest (eOp gEq (eVar 0) (eC (.int 20))))
  (sRaise ⟨T.a_BadWord, none⟩)
  sNext)
  (sSeq (sIf (eTest (eOp gEq (eVar 0) (eC (.int 21))))
  (sRaiseI T.a_BadChange ["node"] (aCons (eVar 1) aNil))
  sNext)
  (sSeq (sIf (eTest (eOp gEq (eVar 0) (eC (.int 22))))
  (sRaise ⟨T.a_BadDoors, none⟩)
  sNext)
  (sSeq (sIf (eTest (eOp gEq (eVar 0) (eC (.int 23))))
  (sRaise ⟨T.a_BadOrder, none⟩)
  sNext)
  (sSeq (sIf (eTest (eOp gEq (eVar 0) (eC (.int 24))))
  (sRaise ⟨T.a_MixedGraphs, none⟩)
  sNext)
  (sSeq (sIf (eTest (eOp gEq (eVar 0) (eC (.int 25))))
  (sRaise ⟨T.a_NotOver, none⟩)
  sNext)
  (sSeq (sIf (eTest (eOp gEq (eVar 0) (eC (.int 26))))
  (sRaise ⟨T.a_DeskError, none⟩)
  sNext)
  (sSeq (sIf (eTest (eOp gEq (eVar 0) (eC (.int 27))))
  (sRaiseI T.a_BadName ["name"] (aCons (eVar 2) aNil))
  sNext)
  (sSeq (sIf (eTest (eOp gEq (eVar 0) (eC (.int 28))))
  (sRaiseI T.a_NameTaken ["name"] (aCons (eVar 2) aNil))
  sNext)
  (sSeq (sIf (eTest (eOp gEq (eVar 0) (eC (.int 29))))
  (sRaiseI T.a_NoProgram ["name"] (aCons (eVar 2) aNil))
  sNext)
  (sSeq (sIf (eTest (eOp gEq (eVar 0) (eC (.int 30))))
  (sRaiseI T.a_NoTeam ["name"] (aCons (eVar 2) aNil))
  sNext)
  (sSeq (sIf (eTest (eOp gEq (eVar 0) (eC (.int 31))))
  (sRaiseI T.a_Unending ["lane"] (aCons (eVar 1) aNil))
  sNext)
  (sSeq (sIf (eTest (eOp gEq (eVar 0) (eC (.int 32))))
  (sRaiseI T.a_BadPolicy ["name"] (aCons (eVar 2) aNil))
  sNext)
  (sSeq (sIf (eTest (eOp gEq (eVar 0) (eC (.int 33))))
  (sRaise ⟨T.a_NothingToUndo, none⟩)
  sNext)
  (sSeq (sIf (eTest (eOp gEq (eVar 0) (eC (.int 34))))
  (sRaise ⟨T.a_NothingToRedo, none⟩)
  sNext)
  (sSeq (sIf (eTest (eOp gEq (eVar 0) (eC (.int 35))))
  (sRaiseI T.a_BadJournal ["line"] (aCons (eVar 1) aNil))
  sNext)
  (sRet (own0 (eC .non))))))))))))))))))))
noncomputable def m_law_second (T : Txt P K mg) : FM := fnM 3 3 (c_law_second T)
theorem ok_law_second (T : Txt P K mg) : FnOk P w K mg base (L2N.CX P w) 3 T.a_law_second T.fd_law_second ["_law_k", "_law_one", "_law_text_here"] (spM K (m_law_second T)) :=
  fn_okM (k := 2) (F := (c_law_second T)) 3 3 rfl rfl T.F_law_second sc_law_second fun cdv A outer s H E hr => by
    unfold c_law_second 
    exact (ss_cons (s_if (t_cmp (op_eqA (units_cx hr)) ok_eq (b_var 0) b_int (nomark _)) (ss_one (s_raise0 rfl takes_cx PySem.F.excBase_ValueError T.q_NoWild T.g_NoWild T.rz_NoWild.k T.rz_NoWild.sb T.rz_NoWild.ty (by rfl))) ss_nil)
    (ss_cons (s_if (t_cmp (op_eqA (units_cx hr)) ok_eq (b_var 0) b_int (nomark _)) (ss_one (s_raise0 rfl takes_cx PySem.F.excBase_ValueError T.q_BadWord T.g_BadWord T.rz_BadWord.k T.rz_BadWord.sb T.rz_BadWord.ty (by rfl))) ss_nil)
    (ss_cons (s_if (t_cmp (op_eqA (units_cx hr)) ok_eq (b_var 0) b_int (nomark _)) (ss_one (s_raiseI rfl takes_cx T.rz_BadChange.T T.rz_BadChange.SC T.rz_BadChange.no T.rz_BadChange.iC T.tI_BadChange (ok_i_BadChange T) (hr.mono (by decide)) T.bi_BadChange (passes_no takes_cx) (by rfl) T.g_BadChange (ah_cons (b_var 1) ah_nil))) ss_nil)
    (ss_cons (s_if (t_cmp (op_eqA (units_cx hr)) ok_eq (b_var 0) b_int (nomark _)) (ss_one (s_raise0 rfl takes_cx PySem.F.excBase_ValueError T.q_BadDoors T.g_BadDoors T.rz_BadDoors.k T.rz_BadDoors.sb T.rz_BadDoors.ty (by rfl))) ss_nil)
    (ss_cons (s_if (t_cmp (op_eqA (units_cx hr)) ok_eq (b_var 0) b_int (nomark _)) (ss_one (s_raise0 rfl takes_cx PySem.F.excBase_ValueError T.q_BadOrder T.g_BadOrder T.rz_BadOrder.k T.rz_BadOrder.sb T.rz_BadOrder.ty (by rfl))) ss_nil)
    (ss_cons (s_if (t_cmp (op_eqA (units_cx hr)) ok_eq (b_var 0) b_int (nomark _)) (ss_one (s_raise0 rfl takes_cx PySem.F.excBase_ValueError T.q_MixedGraphs T.g_MixedGraphs T.rz_MixedGraphs.k T.rz_MixedGraphs.sb T.rz_MixedGraphs.ty (by rfl))) ss_nil)
    (ss_cons (s_if (t_cmp (op_eqA (units_cx hr)) ok_eq (b_var 0) b_int (nomark _)) (ss_one (s_raise0 rfl takes_cx PySem.F.excBase_ValueError T.q_NotOver T.g_NotOver T.rz_NotOver.k T.rz_NotOver.sb T.rz_NotOver.ty (by rfl))) ss_nil)
    (ss_cons (s_if (t_cmp (op_eqA (units_cx hr)) ok_eq (b_var 0) b_int (nomark _)) (ss_one (s_raise0 rfl takes_cx PySem.F.excBase_ValueError T.q_DeskError T.g_DeskError T.rz_DeskError.k T.rz_DeskError.sb T.rz_DeskError.ty (by rfl))) ss_nil)
    (ss_cons (s_if (t_cmp (op_eqA (units_cx hr)) ok_eq (b_var 0) b_int (nomark _)) (ss_one (s_raiseI rfl takes_cx T.rz_BadName.T T.rz_BadName.SC T.rz_BadName.no T.rz_BadName.iC T.tI_BadName (ok_i_BadName T) (hr.mono (by decide)) T.bi_BadName (passes_no takes_cx) (by rfl) T.g_BadName (ah_cons (b_var 2) ah_nil))) ss_nil)
    (ss_cons (s_if (t_cmp (op_eqA (units_cx hr)) ok_eq (b_var 0) b_int (nomark _)) (ss_one (s_raiseI rfl takes_cx T.rz_NameTaken.T T.rz_NameTaken.SC T.rz_NameTaken.no T.rz_NameTaken.iC T.tI_NameTaken (ok_i_NameTaken T) (hr.mono (by decide)) T.bi_NameTaken (passes_no takes_cx) (by rfl) T.g_NameTaken (ah_cons (b_var 2) ah_nil))) ss_nil)
    (ss_cons (s_if (t_cmp (op_eqA (units_cx hr)) ok_eq (b_var 0) b_int (nomark _)) (ss_one (s_raiseI rfl takes_cx T.rz_NoProgram.T T.rz_NoProgram.SC T.rz_NoProgram.no T.rz_NoProgram.iC T.tI_NoProgram (ok_i_NoProgram T) (hr.mono (by decide)) T.bi_NoProgram (passes_no takes_cx) (by rfl) T.g_NoProgram (ah_cons (b_var 2) ah_nil))) ss_nil)
    (ss_cons (s_if (t_cmp (op_eqA (units_cx hr)) ok_eq (b_var 0) b_int (nomark _)) (ss_one (s_raiseI rfl takes_cx T.rz_NoTeam.T T.rz_NoTeam.SC T.rz_NoTeam.no T.rz_NoTeam.iC T.tI_NoTeam (ok_i_NoTeam T) (hr.mono (by decide)) T.bi_NoTeam (passes_no takes_cx) (by rfl) T.g_NoTeam (ah_cons (b_var 2) ah_nil))) ss_nil)
    (ss_cons (s_if (t_cmp (op_eqA (units_cx hr)) ok_eq (b_var 0) b_int (nomark _)) (ss_one (s_raiseI rfl takes_cx T.rz_Unending.T T.rz_Unending.SC T.rz_Unending.no T.rz_Unending.iC T.tI_Unending (ok_i_Unending T) (hr.mono (by decide)) T.bi_Unending (passes_no takes_cx) (by rfl) T.g_Unending (ah_cons (b_var 1) ah_nil))) ss_nil)
    (ss_cons (s_if (t_cmp (op_eqA (units_cx hr)) ok_eq (b_var 0) b_int (nomark _)) (ss_one (s_raiseI rfl takes_cx T.rz_BadPolicy.T T.rz_BadPolicy.SC T.rz_BadPolicy.no T.rz_BadPolicy.iC T.tI_BadPolicy (ok_i_BadPolicy T) (hr.mono (by decide)) T.bi_BadPolicy (passes_no takes_cx) (by rfl) T.g_BadPolicy (ah_cons (b_var 2) ah_nil))) ss_nil)
    (ss_cons (s_if (t_cmp (op_eqA (units_cx hr)) ok_eq (b_var 0) b_int (nomark _)) (ss_one (s_raise0 rfl takes_cx PySem.F.excBase_ValueError T.q_NothingToUndo T.g_NothingToUndo T.rz_NothingToUndo.k T.rz_NothingToUndo.sb T.rz_NothingToUndo.ty (by rfl))) ss_nil)
    (ss_cons (s_if (t_cmp (op_eqA (units_cx hr)) ok_eq (b_var 0) b_int (nomark _)) (ss_one (s_raise0 rfl takes_cx PySem.F.excBase_ValueError T.q_NothingToRedo T.g_NothingToRedo T.rz_NothingToRedo.k T.rz_NothingToRedo.sb T.rz_NothingToRedo.ty (by rfl))) ss_nil)
    (ss_cons (s_if (t_cmp (op_eqA (units_cx hr)) ok_eq (b_var 0) b_int (nomark _)) (ss_one (s_raiseI rfl takes_cx T.rz_BadJournal.T T.rz_BadJournal.SC T.rz_BadJournal.no T.rz_BadJournal.iC T.tI_BadJournal (ok_i_BadJournal T) (hr.mono (by decide)) T.bi_BadJournal (passes_no takes_cx) (by rfl) T.g_BadJournal (ah_cons (b_var 1) ah_nil))) ss_nil)
    (ss_one (s_ret (m_of_b b_non))))))))))))))))))))
/-! ### _law_kinds -/
theorem sc_law_kinds : FnScope ["_law_e", "_law_kinds_here"] ["_law_e"] (defScope s_law_kinds) := ⟨rfl, rfl, rfl, by decide +kernel, rfl, by decide +kernel, by decide +kernel⟩
noncomputable def c_law_kinds (T : Txt P K mg) (a0 : Ha) (e0 : Exo) : SM :=
  (sSeq (sAsg 1 (eLst (a0Cons (eIsx K a0 e0 [.ref T.a_BadNode] (eVar 0)) (a0Cons (eIsx K a0 e0 [.ref T.a_Unreachable] (eVar 0)) (a0Cons (eIsx K a0 e0 [.ref T.a_NoEnd] (eVar 0)) (a0Cons (eIsx K a0 e0 [.ref T.a_BadRing] (eVar 0)) aNil))))))
  (sSeq (sAsg 1 (eCat (eVar 1) (frzE (eLst (a0Cons (eIsx K a0 e0 [.ref T.a_TextError] (eVar 0)) (a0Cons (eIsx K a0 e0 [.ref T.a_BadLine] (eVar 0)) (a0Cons (eIsx K a0 e0 [.ref T.a_Misplaced] (eVar 0)) aNil)))))))
  (sSeq (sAsg 1 (eCat (eVar 1) (frzE (eLst (a0Cons (eIsx K a0 e0 [.ref T.a_TooDeep] (eVar 0)) (a0Cons (eIsx K a0 e0 [.ref T.a_DuplicateMark] (eVar 0)) (a0Cons (eIsx K a0 e0 [.ref T.a_Unclosed] (eVar 0)) aNil)))))))
  (sSeq (sAsg 1 (eCat (eVar 1) (frzE (eLst (a0Cons (eIsx K a0 e0 [.ref T.a_NoMark] (eVar 0)) (a0Cons (eIsx K a0 e0 [.ref T.a_BareLoop] (eVar 0)) (a0Cons (eIsx K a0 e0 [.ref T.a_BadStart] (eVar 0)) (a0Cons (eIsx K a0 e0 [.ref T.a_BadRun] (eVar 0)) aNil))))))))
  (sSeq (sAsg 1 (eCat (eVar 1) (frzE (eLst (a0Cons (eIsx K a0 e0 [.ref T.a_NotStanding] (eVar 0)) (a0Cons (eIsx K a0 e0 [.ref T.a_Incomplete] (eVar 0)) (a0Cons (eIsx K a0 e0 [.ref T.a_BadStay] (eVar 0)) aNil)))))))
  (sSeq (sAsg 1 (eCat (eVar 1) (frzE (eLst (a0Cons (eIsx K a0 e0 [.ref T.a_TooLarge] (eVar 0)) (a0Cons (eIsx K a0 e0 [.ref T.a_WildProgram] (eVar 0)) (a0Cons (eIsx K a0 e0 [.ref T.a_NoWild] (eVar 0)) aNil)))))))
  (sSeq (sAsg 1 (eCat (eVar 1) (frzE (eLst (a0Cons (eIsx K a0 e0 [.ref T.a_BadWord] (eVar 0)) (a0Cons (eIsx K a0 e0 [.ref T.a_BadChange] (eVar 0)) (a0Cons (eIsx K a0 e0 [.ref T.a_BadDoors] (eVar 0)) aNil)))))))
  (sSeq (sAsg 1 (eCat (eVar 1) (frzE (eLst (a0Cons (eIsx K a0 e0 [.ref T.a_BadOrder] (eVar 0)) (a0Cons (eIsx K a0 e0 [.ref T.a_MixedGraphs] (eVar 0)) (a0Cons (eIsx K a0 e0 [.ref T.a_NotOver] (eVar 0)) aNil)))))))
  (sSeq (sAsg 1 (eCat (eVar 1) (frzE (eLst (a0Cons (eIsx K a0 e0 [.ref T.a_DeskError] (eVar 0)) (a0Cons (eIsx K a0 e0 [.ref T.a_BadName] (eVar 0)) (a0Cons (eIsx K a0 e0 [.ref T.a_NameTaken] (eVar 0)) aNil)))))))
  (sSeq (sAsg 1 (eCat (eVar 1) (frzE (eLst (a0Cons (eIsx K a0 e0 [.ref T.a_NoProgram] (eVar 0)) (a0Cons (eIsx K a0 e0 [.ref T.a_NoTeam] (eVar 0)) (a0Cons (eIsx K a0 e0 [.ref T.a_Unending] (eVar 0)) aNil)))))))
  (sSeq (sAsg 1 (eCat (eVar 1) (frzE (eLst (a0Cons (eIsx K a0 e0 [.ref T.a_BadPolicy] (eVar 0)) (a0Cons (eIsx K a0 e0 [.ref T.a_NothingToUndo] (eVar 0)) (a0Cons (eIsx K a0 e0 [.ref T.a_NothingToRedo] (eVar 0)) aNil)))))))
  (sSeq (sAsg 1 (eCat (eVar 1) (frzE (eLst (a0Cons (eIsx K a0 e0 [.ref T.a_BadJournal] (eVar 0)) aNil)))))
  (sRetV 1)))))))))))))
noncomputable def m_law_kinds (T : Txt P K mg) (a0 : Ha) (e0 : Exo) : FM := fnM 1 2 (c_law_kinds T a0 e0)
theorem ok_law_kinds (T : Txt P K mg) : FnX P w K mg base (L2N.CX P w) 1 T.a_law_kinds T.fd_law_kinds ["_law_e"] (spX K (m_law_kinds T)) :=
  fn_okX (k := 0) (F := c_law_kinds T) 1 2 rfl rfl T.F_law_kinds sc_law_kinds fun cdv A outer s H E p0 e0 b0 hr hh => by
    unfold c_law_kinds 
    exact (ss_cons (s_set (i := 1) sc_law_kinds.nd rfl (Or.inl rfl) (m_lst (a_cons (b_isx1 hh (by rfl) T.z_isinstance (.own _) (pe_glob (v := .ref T.a_BadNode) (by rfl) T.g_BadNode rfl) (b_var 0)) (a_cons (b_isx1 hh (by rfl) T.z_isinstance (.own _) (pe_glob (v := .ref T.a_Unreachable) (by rfl) T.g_Unreachable rfl) (b_var 0)) (a_cons (b_isx1 hh (by rfl) T.z_isinstance (.own _) (pe_glob (v := .ref T.a_NoEnd) (by rfl) T.g_NoEnd rfl) (b_var 0)) (a_cons (b_isx1 hh (by rfl) T.z_isinstance (.own _) (pe_glob (v := .ref T.a_BadRing) (by rfl) T.g_BadRing rfl) (b_var 0)) a_nil))))))
    (ss_cons (s_set (i := 1) sc_law_kinds.nd rfl (Or.inl rfl) (m_cat (b_var 1) (b_of_m (m_lst (a_cons (b_isx1 hh (by rfl) T.z_isinstance (.own _) (pe_glob (v := .ref T.a_TextError) (by rfl) T.g_TextError rfl) (b_var 0)) (a_cons (b_isx1 hh (by rfl) T.z_isinstance (.own _) (pe_glob (v := .ref T.a_BadLine) (by rfl) T.g_BadLine rfl) (b_var 0)) (a_cons (b_isx1 hh (by rfl) T.z_isinstance (.own _) (pe_glob (v := .ref T.a_Misplaced) (by rfl) T.g_Misplaced rfl) (b_var 0)) a_nil)))))))
    (ss_cons (s_set (i := 1) sc_law_kinds.nd rfl (Or.inl rfl) (m_cat (b_var 1) (b_of_m (m_lst (a_cons (b_isx1 hh (by rfl) T.z_isinstance (.own _) (pe_glob (v := .ref T.a_TooDeep) (by rfl) T.g_TooDeep rfl) (b_var 0)) (a_cons (b_isx1 hh (by rfl) T.z_isinstance (.own _) (pe_glob (v := .ref T.a_DuplicateMark) (by rfl) T.g_DuplicateMark rfl) (b_var 0)) (a_cons (b_isx1 hh (by rfl) T.z_isinstance (.own _) (pe_glob (v := .ref T.a_Unclosed) (by rfl) T.g_Unclosed rfl) (b_var 0)) a_nil)))))))
    (ss_cons (s_set (i := 1) sc_law_kinds.nd rfl (Or.inl rfl) (m_cat (b_var 1) (b_of_m (m_lst (a_cons (b_isx1 hh (by rfl) T.z_isinstance (.own _) (pe_glob (v := .ref T.a_NoMark) (by rfl) T.g_NoMark rfl) (b_var 0)) (a_cons (b_isx1 hh (by rfl) T.z_isinstance (.own _) (pe_glob (v := .ref T.a_BareLoop) (by rfl) T.g_BareLoop rfl) (b_var 0)) (a_cons (b_isx1 hh (by rfl) T.z_isinstance (.own _) (pe_glob (v := .ref T.a_BadStart) (by rfl) T.g_BadStart rfl) (b_var 0)) (a_cons (b_isx1 hh (by rfl) T.z_isinstance (.own _) (pe_glob (v := .ref T.a_BadRun) (by rfl) T.g_BadRun rfl) (b_var 0)) a_nil))))))))
    (ss_cons (s_set (i := 1) sc_law_kinds.nd rfl (Or.inl rfl) (m_cat (b_var 1) (b_of_m (m_lst (a_cons (b_isx1 hh (by rfl) T.z_isinstance (.own _) (pe_glob (v := .ref T.a_NotStanding) (by rfl) T.g_NotStanding rfl) (b_var 0)) (a_cons (b_isx1 hh (by rfl) T.z_isinstance (.own _) (pe_glob (v := .ref T.a_Incomplete) (by rfl) T.g_Incomplete rfl) (b_var 0)) (a_cons (b_isx1 hh (by rfl) T.z_isinstance (.own _) (pe_glob (v := .ref T.a_BadStay) (by rfl) T.g_BadStay rfl) (b_var 0)) a_nil)))))))
    (ss_cons (s_set (i := 1) sc_law_kinds.nd rfl (Or.inl rfl) (m_cat (b_var 1) (b_of_m (m_lst (a_cons (b_isx1 hh (by rfl) T.z_isinstance (.own _) (pe_glob (v := .ref T.a_TooLarge) (by rfl) T.g_TooLarge rfl) (b_var 0)) (a_cons (b_isx1 hh (by rfl) T.z_isinstance (.own _) (pe_glob (v := .ref T.a_WildProgram) (by rfl) T.g_WildProgram rfl) (b_var 0)) (a_cons (b_isx1 hh (by rfl) T.z_isinstance (.own _) (pe_glob (v := .ref T.a_NoWild) (by rfl) T.g_NoWild rfl) (b_var 0)) a_nil)))))))
    (ss_cons (s_set (i := 1) sc_law_kinds.nd rfl (Or.inl rfl) (m_cat (b_var 1) (b_of_m (m_lst (a_cons (b_isx1 hh (by rfl) T.z_isinstance (.own _) (pe_glob (v := .ref T.a_BadWord) (by rfl) T.g_BadWord rfl) (b_var 0)) (a_cons (b_isx1 hh (by rfl) T.z_isinstance (.own _) (pe_glob (v := .ref T.a_BadChange) (by rfl) T.g_BadChange rfl) (b_var 0)) (a_cons (b_isx1 hh (by rfl) T.z_isinstance (.own _) (pe_glob (v := .ref T.a_BadDoors) (by rfl) T.g_BadDoors rfl) (b_var 0)) a_nil)))))))
    (ss_cons (s_set (i := 1) sc_law_kinds.nd rfl (Or.inl rfl) (m_cat (b_var 1) (b_of_m (m_lst (a_cons (b_isx1 hh (by rfl) T.z_isinstance (.own _) (pe_glob (v := .ref T.a_BadOrder) (by rfl) T.g_BadOrder rfl) (b_var 0)) (a_cons (b_isx1 hh (by rfl) T.z_isinstance (.own _) (pe_glob (v := .ref T.a_MixedGraphs) (by rfl) T.g_MixedGraphs rfl) (b_var 0)) (a_cons (b_isx1 hh (by rfl) T.z_isinstance (.own _) (pe_glob (v := .ref T.a_NotOver) (by rfl) T.g_NotOver rfl) (b_var 0)) a_nil)))))))
    (ss_cons (s_set (i := 1) sc_law_kinds.nd rfl (Or.inl rfl) (m_cat (b_var 1) (b_of_m (m_lst (a_cons (b_isx1 hh (by rfl) T.z_isinstance (.own _) (pe_glob (v := .ref T.a_DeskError) (by rfl) T.g_DeskError rfl) (b_var 0)) (a_cons (b_isx1 hh (by rfl) T.z_isinstance (.own _) (pe_glob (v := .ref T.a_BadName) (by rfl) T.g_BadName rfl) (b_var 0)) (a_cons (b_isx1 hh (by rfl) T.z_isinstance (.own _) (pe_glob (v := .ref T.a_NameTaken) (by rfl) T.g_NameTaken rfl) (b_var 0)) a_nil)))))))
    (ss_cons (s_set (i := 1) sc_law_kinds.nd rfl (Or.inl rfl) (m_cat (b_var 1) (b_of_m (m_lst (a_cons (b_isx1 hh (by rfl) T.z_isinstance (.own _) (pe_glob (v := .ref T.a_NoProgram) (by rfl) T.g_NoProgram rfl) (b_var 0)) (a_cons (b_isx1 hh (by rfl) T.z_isinstance (.own _) (pe_glob (v := .ref T.a_NoTeam) (by rfl) T.g_NoTeam rfl) (b_var 0)) (a_cons (b_isx1 hh (by rfl) T.z_isinstance (.own _) (pe_glob (v := .ref T.a_Unending) (by rfl) T.g_Unending rfl) (b_var 0)) a_nil)))))))
    (ss_cons (s_set (i := 1) sc_law_kinds.nd rfl (Or.inl rfl) (m_cat (b_var 1) (b_of_m (m_lst (a_cons (b_isx1 hh (by rfl) T.z_isinstance (.own _) (pe_glob (v := .ref T.a_BadPolicy) (by rfl) T.g_BadPolicy rfl) (b_var 0)) (a_cons (b_isx1 hh (by rfl) T.z_isinstance (.own _) (pe_glob (v := .ref T.a_NothingToUndo) (by rfl) T.g_NothingToUndo rfl) (b_var 0)) (a_cons (b_isx1 hh (by rfl) T.z_isinstance (.own _) (pe_glob (v := .ref T.a_NothingToRedo) (by rfl) T.g_NothingToRedo rfl) (b_var 0)) a_nil)))))))
    (ss_cons (s_set (i := 1) sc_law_kinds.nd rfl (Or.inl rfl) (m_cat (b_var 1) (b_of_m (m_lst (a_cons (b_isx1 hh (by rfl) T.z_isinstance (.own _) (pe_glob (v := .ref T.a_BadJournal) (by rfl) T.g_BadJournal rfl) (b_var 0)) a_nil)))))
    (ss_one (s_retV 1))))))))))))))
/-! ### _law_fields -/
theorem sc_law_fields : FnScope ["_law_k", "_law_e"] ["_law_k", "_law_e"] (defScope s_law_fields) := ⟨rfl, rfl, rfl, by decide +kernel, rfl, by decide +kernel, by decide +kernel⟩
noncomputable def c_law_fields (T : Txt P K mg) (a0 : Ha) (e0 : Exo) : SM :=
  (sSeq (sIf (eTest (eOp (gIn false) (eVar 0) (frzE (eLst (a0Cons (eC (.int 0)) (a0Cons (eC (.int 1)) (a0Cons (eC (.int 2)) (a0Cons (eC (.int 14)) (a0Cons (eC (.int 18)) (a0Cons (eC (.int 21)) aNil))))))))))
  (sRet (eLst (a0Cons (eXf K a0 e0 "node" (eVar 1)) aNil)))
  sNext)
  (sSeq (sIf (tyOr (tyAnd (eTest (eOp gGt (eVar 0) (eC (.int 3)))) (eTest (eOp gLt (eVar 0) (eC (.int 11))))) (eTest (eOp gEq (eVar 0) (eC (.int 35)))))
  (sRet (eLst (a0Cons (eXf K a0 e0 "line" (eVar 1)) aNil)))
  sNext)
  (sSeq (sIf (eTest (eOp gEq (eVar 0) (eC (.int 11))))
  (sRet (eLst (a0Cons (eXf K a0 e0 "statement" (eVar 1)) aNil)))
  sNext)
  (sSeq (sIf (eTest (eOp gEq (eVar 0) (eC (.int 13))))
  (sRet (eLst (a0Cons (eXf K a0 e0 "lane" (eVar 1)) (a0Cons (eXf K a0 e0 "place" (eVar 1)) aNil))))
  sNext)
  (sSeq (sIf (eTest (eOp gEq (eVar 0) (eC (.int 16))))
  (sRet (eLst (a0Cons (eXf K a0 e0 "place" (eVar 1)) aNil)))
  sNext)
  (sSeq (sIf (eTest (eOp gEq (eVar 0) (eC (.int 31))))
  (sRet (eLst (a0Cons (eXf K a0 e0 "lane" (eVar 1)) aNil)))
  sNext)
  (sSeq (sIf (eTest (eOp (gIn false) (eVar 0) (frzE (eLst (a0Cons (eC (.int 27)) (a0Cons (eC (.int 28)) (a0Cons (eC (.int 29)) (a0Cons (eC (.int 30)) (a0Cons (eC (.int 32)) aNil)))))))))
  (sRet (eLst (a0Cons (eXf K a0 e0 "name" (eVar 1)) aNil)))
  sNext)
  (sRet (eLst aNil)))))))))
noncomputable def m_law_fields (T : Txt P K mg) (a0 : Ha) (e0 : Exo) : FM := fnM 2 2 (c_law_fields T a0 e0)
theorem ok_law_fields (T : Txt P K mg) : FnX P w K mg base (L2N.CX P w) 1 T.a_law_fields T.fd_law_fields ["_law_k", "_law_e"] (spX K (m_law_fields T)) :=
  fn_okX (k := 0) (F := c_law_fields T) 2 2 rfl rfl T.F_law_fields sc_law_fields fun cdv A outer s H E p0 e0 b0 hr hh => by
    unfold c_law_fields 
    exact (ss_cons (s_if (t_cmp op_in_seq ok_in (b_var 0) (b_of_m (m_lst (a_cons b_int (a_cons b_int (a_cons b_int (a_cons b_int (a_cons b_int (a_cons b_int a_nil)))))))) (by rfl)) (ss_one (s_ret (m_lst (a_cons (b_xf hh (b_var 1)) a_nil)))) ss_nil)
    (ss_cons (s_if (PW.pt (w_or (PW.pt (w_and (t_cmp op_gt ok_gt (b_var 0) b_int (nomark _)) (w_and1 (t_cmp op_lt ok_lt (b_var 0) b_int (nomark _))))) (w_or1 (t_cmp (op_eqA (units_h hr)) ok_eq (b_var 0) b_int (nomark _))))) (ss_one (s_ret (m_lst (a_cons (b_xf hh (b_var 1)) a_nil)))) ss_nil)
    (ss_cons (s_if (t_cmp (op_eqA (units_h hr)) ok_eq (b_var 0) b_int (nomark _)) (ss_one (s_ret (m_lst (a_cons (b_xf hh (b_var 1)) a_nil)))) ss_nil)
    (ss_cons (s_if (t_cmp (op_eqA (units_h hr)) ok_eq (b_var 0) b_int (nomark _)) (ss_one (s_ret (m_lst (a_cons (b_xf hh (b_var 1)) (a_cons (b_xf hh (b_var 1)) a_nil))))) ss_nil)
    (ss_cons (s_if (t_cmp (op_eqA (units_h hr)) ok_eq (b_var 0) b_int (nomark _)) (ss_one (s_ret (m_lst (a_cons (b_xf hh (b_var 1)) a_nil)))) ss_nil)
    (ss_cons (s_if (t_cmp (op_eqA (units_h hr)) ok_eq (b_var 0) b_int (nomark _)) (ss_one (s_ret (m_lst (a_cons (b_xf hh (b_var 1)) a_nil)))) ss_nil)
    (ss_cons (s_if (t_cmp op_in_seq ok_in (b_var 0) (b_of_m (m_lst (a_cons b_int (a_cons b_int (a_cons b_int (a_cons b_int (a_cons b_int a_nil))))))) (by rfl)) (ss_one (s_ret (m_lst (a_cons (b_xf hh (b_var 1)) a_nil)))) ss_nil)
    (ss_one (s_ret (m_lst a_nil))))))))))
/-! ### _law_due -/
theorem sc_law_due : FnScope ["_law_k", "_law_one", "_law_two", "_law_text_here"] ["_law_k", "_law_one", "_law_two", "_law_text_here"] (defScope s_law_due) := ⟨rfl, rfl, rfl, by decide +kernel, rfl, by decide +kernel, by decide +kernel⟩
noncomputable def c_law_due (T : Txt P K mg) (a0 : Ha) (e0 : Exo) : SM :=
  (sSeq (sIf (eTest (eOp gEq (eVar 0) (eC (.int 13))))
  (sRet (eLst (a0Cons (eVar 1) (a0Cons (eVar 2) aNil))))
  sNext)
  (sSeq (sIf (eTest (eOp (gIn false) (eVar 0) (frzE (eLst (a0Cons (eC (.int 27)) (a0Cons (eC (.int 28)) (a0Cons (eC (.int 29)) (a0Cons (eC (.int 30)) (a0Cons (eC (.int 32)) aNil)))))))))
  (sRet (eLst (a0Cons (eVar 3) aNil)))
  sNext)
  (sSeq (sIf (eTest (eOp (gIn false) (eVar 0) (frzE (eLst (a0Cons (eC (.int 3)) (a0Cons (eC (.int 12)) (a0Cons (eC (.int 15)) (a0Cons (eC (.int 17)) (a0Cons (eC (.int 19)) (a0Cons (eC (.int 20)) (a0Cons (eC (.int 22)) (a0Cons (eC (.int 23)) (a0Cons (eC (.int 24)) (a0Cons (eC (.int 25)) (a0Cons (eC (.int 26)) (a0Cons (eC (.int 33)) (a0Cons (eC (.int 34)) aNil)))))))))))))))))
  (sRet (eLst aNil))
  sNext)
  (sRet (eLst (a0Cons (eVar 1) aNil))))))
noncomputable def m_law_due (T : Txt P K mg) (a0 : Ha) (e0 : Exo) : FM := fnM 4 4 (c_law_due T a0 e0)
theorem ok_law_due (T : Txt P K mg) : FnX P w K mg base (L2N.CX P w) 1 T.a_law_due T.fd_law_due ["_law_k", "_law_one", "_law_two", "_law_text_here"] (spX K (m_law_due T)) :=
  fn_okX (k := 0) (F := c_law_due T) 4 4 rfl rfl T.F_law_due sc_law_due fun cdv A outer s H E p0 e0 b0 hr hh => by
    unfold c_law_due 
    exact (ss_cons (s_if (t_cmp (op_eqA (units_h hr)) ok_eq (b_var 0) b_int (nomark _)) (ss_one (s_ret (m_lst (a_cons (b_var 1) (a_cons (b_var 2) a_nil))))) ss_nil)
    (ss_cons (s_if (t_cmp op_in_seq ok_in (b_var 0) (b_of_m (m_lst (a_cons b_int (a_cons b_int (a_cons b_int (a_cons b_int (a_cons b_int a_nil))))))) (by rfl)) (ss_one (s_ret (m_lst (a_cons (b_var 3) a_nil)))) ss_nil)
    (ss_cons (s_if (t_cmp op_in_seq ok_in (b_var 0) (b_of_m (m_lst (a_cons b_int (a_cons b_int (a_cons b_int (a_cons b_int (a_cons b_int (a_cons b_int (a_cons b_int (a_cons b_int (a_cons b_int (a_cons b_int (a_cons b_int (a_cons b_int (a_cons b_int a_nil))))))))))))))) (by rfl)) (ss_one (s_ret (m_lst a_nil))) ss_nil)
    (ss_one (s_ret (m_lst (a_cons (b_var 1) a_nil)))))))
/-! ### _law_same -/
theorem sc_law_same : FnScope ["_law_told", "_law_due_here", "_law_j"] ["_law_told", "_law_due_here"] (defScope s_law_same) := ⟨rfl, rfl, rfl, by decide +kernel, rfl, by decide +kernel, by decide +kernel⟩
noncomputable def c_law_same_1 (T : Txt P K mg) (a0 : Ha) (e0 : Exo) : SM :=
  (sSeq (sIf (tyAnd (eTest (eUn (gIsi "str") (eIx (eVar 1) (eVar 2)))) (tyNot (eTest (eUn (gIsi "str") (eIx (eVar 0) (eVar 2))))))
  (sRet (own0 (eC (.bl false))))
  sNext)
  (sSeq (sIf (tyAnd (tyNot (eTest (eUn (gIsi "str") (eIx (eVar 1) (eVar 2))))) (tyNot (eTest (eFnF (m_law_is_int T a0 e0) (aCons (eIx (eVar 0) (eVar 2)) aNil)))))
  (sRet (own0 (eC (.bl false))))
  sNext)
  (sIf (eTest (eOp gNe (eIx (eVar 0) (eVar 2)) (eIx (eVar 1) (eVar 2))))
  (sRet (own0 (eC (.bl false))))
  sNext)))
noncomputable def c_law_same (T : Txt P K mg) (a0 : Ha) (e0 : Exo) : SM :=
  (sSeq (sIf (eTest (eOp gNe (eCall gLen (aCons (eVar 0) aNil)) (eCall gLen (aCons (eVar 1) aNil))))
  (sRet (own0 (eC (.bl false))))
  sNext)
  (sSeq (sFor (iRg1 (aCons (eCall gLen (aCons (eVar 1) aNil)) aNil)) (tgName 2) (c_law_same_1 T a0 e0))
  (sRet (own0 (eC (.bl true))))))
noncomputable def m_law_same (T : Txt P K mg) (a0 : Ha) (e0 : Exo) : FM := fnM 2 3 (c_law_same T a0 e0)
theorem ok_law_same (T : Txt P K mg) : FnX P w K mg base (L2N.CX P w) 2 T.a_law_same T.fd_law_same ["_law_told", "_law_due_here"] (spX K (m_law_same T)) :=
  fn_okX (k := 1) (F := c_law_same T) 2 3 rfl rfl T.F_law_same sc_law_same fun cdv A outer s H E p0 e0 b0 hr hh => by
    unfold c_law_same c_law_same_1
    exact (ss_cons (s_if (t_cmp (op_neA (units_h hr)) ok_ne (b_len (by rfl) T.z_len (ah_cons (b_var 0) ah_nil)) (b_len (by rfl) T.z_len (ah_cons (b_var 1) ah_nil)) (nomark _)) (ss_one (s_ret (m_of_b b_bl))) ss_nil)
    (ss_cons (s_forH passes_h (hot_c hh) (i_range1H (by rfl) T.z_range (ah_cons (b_len (by rfl) T.z_len (ah_cons (b_var 1) ah_nil)) ah_nil)) (pg_name (i := 2) sc_law_same.nd rfl (Or.inl rfl)) tg_name (ss_cons (s_if (PW.pt (w_and (t_val (b_isi "str" (by rfl) T.z_isinstance (by rfl) T.z_str (by decide +kernel) (b_ix (b_var 1) (b_var 2)))) (w_and1 (t_not (t_val (b_isi "str" (by rfl) T.z_isinstance (by rfl) T.z_str (by decide +kernel) (b_ix (b_var 0) (b_var 2)))))))) (ss_one (s_ret (m_of_b b_bl))) ss_nil)
    (ss_cons (s_if (PW.pt (w_and (t_not (t_val (b_isi "str" (by rfl) T.z_isinstance (by rfl) T.z_str (by decide +kernel) (b_ix (b_var 1) (b_var 2))))) (w_and1 (t_not (t_val (b_callX (ok_law_is_int T) takes_h hh (hr.mono (by decide)) (by rfl) T.g_law_is_int T.k_law_is_int T.b_law_is_int (ah_cons (b_ix (b_var 0) (b_var 2)) ah_nil))))))) (ss_one (s_ret (m_of_b b_bl))) ss_nil)
    (ss_one (s_if (t_cmp (op_neA (units_h hr)) ok_ne (b_ix (b_var 0) (b_var 2)) (b_ix (b_var 1) (b_var 2)) (nomark _)) (ss_one (s_ret (m_of_b b_bl))) ss_nil)))))
    (ss_one (s_ret (m_of_b b_bl)))))
/-! ### _law_raised -/
theorem sc_law_raised : FnScope ["_law_k", "_law_one", "_law_two", "_law_text_here", "_law_e", "_law_kinds_here", "_law_j"] ["_law_k", "_law_one", "_law_two", "_law_text_here"] (defScope s_law_raised) := ⟨rfl, rfl, rfl, by decide +kernel, rfl, by decide +kernel, by decide +kernel⟩
noncomputable def c_law_raised (T : Txt P K mg) : SM :=
  (sSeq (sTry K (.ref T.a_ForeworthError) 4
  (sIf (eTest (eOp gLt (eVar 0) (eC (.int 19))))
  (sDrop (eFnF (m_law_first T) (aCons (eVar 0) (aCons (eVar 1) (aCons (eVar 2) aNil)))))
  (sDrop (eFnF (m_law_second T) (aCons (eVar 0) (aCons (eVar 1) (aCons (eVar 3) aNil))))))
  (fun a0 e0 => (sSeq (sAsg 5 (eLc [6] (iRg1 (aCons (eC (.int 36)) aNil)) (tgName 6) tcYes (eOr (eOp gEq (eVar 6) (eVar 0)) (eOr (eAnd (eOp gEq (eVar 6) (eC (.int 4))) (eAnd (eOp gGt (eVar 0) (eC (.int 4))) (eOp gLt (eVar 0) (eC (.int 11))))) (eAnd (eOp gEq (eVar 6) (eC (.int 26))) (eOp gGt (eVar 0) (eC (.int 26))))))))
  (sSeq (sIf (tyOr (eTest (eOp gNeL (frzE (eFn (m_law_kinds T a0 e0) (a0Cons (eVar 4) aNil))) (eVar 5))) (tyNot (eTest (eIsx K a0 e0 [.type "ValueError"] (eVar 4)))))
  (sRet (own0 (eC (.bl false))))
  sNext)
  (sRet (own0 (eFnF (m_law_same T a0 e0) (aCons (frzE (eFn (m_law_fields T a0 e0) (a0Cons (eVar 0) (a0Cons (eVar 4) aNil)))) (aCons (frzE (eFn (m_law_due T a0 e0) (a0Cons (eVar 0) (a0Cons (eVar 1) (a0Cons (eVar 2) (a0Cons (eVar 3) aNil)))))) aNil)))))))))
  (sRet (own0 (eC (.bl false)))))
noncomputable def m_law_raised (T : Txt P K mg) : FM := fnM 4 7 (c_law_raised T)
theorem ok_law_raised (T : Txt P K mg) : FnOk P w K mg base (L2N.CX P w) 4 T.a_law_raised T.fd_law_raised ["_law_k", "_law_one", "_law_two", "_law_text_here"] (spM K (m_law_raised T)) :=
  fn_okM (k := 3) (F := (c_law_raised T)) 4 7 rfl rfl T.F_law_raised sc_law_raised fun cdv A outer s H E hr => by
    unfold c_law_raised 
    exact (ss_cons (s_try (i := 4) rfl rfl sc_law_raised.nd rfl rfl ⟨by rfl, by decide, .inl T.g_ForeworthError⟩ takes_cx (fun W1 pn1 xe1 tk1 pp1 => (ss_one (s_if (t_cmp op_lt ok_lt (b_var 0) b_int (nomark _)) (ss_one (s_drop (b_callF (ok_law_first T) tk1 (hr.mono (by decide)) (by rfl) T.g_law_first T.k_law_first T.b_law_first (ah_cons (b_var 0) (ah_cons (b_var 1) (ah_cons (b_var 2) ah_nil)))))) (ss_one (s_drop (b_callF (ok_law_second T) tk1 (hr.mono (by decide)) (by rfl) T.g_law_second T.k_law_second T.b_law_second (ah_cons (b_var 0) (ah_cons (b_var 1) (ah_cons (b_var 3) ah_nil))))))))) (fun a0 pn0 e0 hh => (ss_cons (s_setLcH (own := [("_law_j", 6)]) (i := 5) (hot_c hh) sc_law_raised.nd rfl rfl (sw_true rfl rfl rfl (by decide +kernel)) (i_range1H (by rfl) T.z_range (ah_cons b_int ah_nil)) (blkOk_by (N := ["_law_k", "_law_one", "_law_two", "_law_text_here", "_law_e", "_law_kinds_here", "_law_j"]) (sc := defScope s_law_raised) (own := [("_law_j", 6)]) (by decide +kernel)) (tw_name (by decide)) (fun _ _ _ _ _ => (pg_name (i := 6) sc_law_raised.nd rfl (Or.inl rfl))) (fun _ _ _ _ _ => c_nil) (fun _ _ _ _ _ => (b_or (b_cmp (op_eqA hr.units) ok_eq (b_var 6) (b_var 0) (nomark _)) (b_or (b_and (b_cmp (op_eqA hr.units) ok_eq (b_var 6) b_int (nomark _)) (b_and (b_cmp op_gt ok_gt (b_var 0) b_int (nomark _)) (b_one (b_cmp op_lt ok_lt (b_var 0) b_int (nomark _))))) (b_one (b_and (b_cmp (op_eqA hr.units) ok_eq (b_var 6) b_int (nomark _)) (b_one (b_cmp op_gt ok_gt (b_var 0) b_int (nomark _)))))))))
    (ss_cons (s_if (PW.pt (w_or (t_cmp (op_neA hr.units) ok_neL (b_of_m (m_callX (ok_law_kinds T) takesN0 hh (room_sx (hr.mono (by decide))) (by rfl) T.g_law_kinds T.k_law_kinds T.b_law_kinds (a_cons (b_var 4) a_nil))) (b_var 5) (nomark _)) (w_or1 (t_not (t_val (b_isx1 hh (by rfl) T.z_isinstance (.ty _) (pe_bltn (v := .ty "ValueError") (by rfl) T.z_ValueError (by decide +kernel) rfl) (b_var 4))))))) (ss_one (s_ret (m_of_b b_bl))) ss_nil)
    (ss_one (s_ret (m_of_b (b_callX (ok_law_same T) takesN0 hh (room_sx (hr.mono (by decide))) (by rfl) T.g_law_same T.k_law_same T.b_law_same (ah_cons (b_of_m (m_callX (ok_law_fields T) takesN0 hh (room_sx (hr.mono (by decide))) (by rfl) T.g_law_fields T.k_law_fields T.b_law_fields (a_cons (b_var 0) (a_cons (b_var 4) a_nil)))) (ah_cons (b_of_m (m_callX (ok_law_due T) takesN0 hh (room_sx (hr.mono (by decide))) (by rfl) T.g_law_due T.k_law_due T.b_law_due (a_cons (b_var 0) (a_cons (b_var 1) (a_cons (b_var 2) (a_cons (b_var 3) a_nil)))))) ah_nil))))))))))
    (ss_one (s_ret (m_of_b b_bl))))
/-! ### _law_number -/
theorem sc_law_number : FnScope ["_law_cell_here", "_law_digit"] ["_law_cell_here"] (defScope s_law_number) := ⟨rfl, rfl, rfl, by decide +kernel, rfl, by decide +kernel, by decide +kernel⟩
noncomputable def c_law_number : SM :=
  (sSeq (sAsg 1 (own0 (eIx (frzE (eFn m_law_digits (a0Cons (eVar 0) (a0Cons (eC (.int 1)) (a0Cons (eC (.int 55440)) aNil))))) (eC (.int 0)))))
  (sSeq (sIf (eTest (eOp gEq (eOp gMod (eCall gToInt (aCons (eVar 1) aNil)) (eC (.int 4))) (eC (.int 1))))
  (sRet (own0 (eOp Mv.gSub (eUn gNeg (eC (.int 9))) (eOp gMod (eCall gToInt (aCons (eOp gDiv (eVar 1) (eC (.int 4))) aNil)) (eC (.int 1000))))))
  sNext)
  (sSeq (sIf (eTest (eOp gEq (eOp gMod (eCall gToInt (aCons (eVar 1) aNil)) (eC (.int 4))) (eC (.int 2))))
  (sRet (own0 (eOp gAdd (eC (.int 1)) (eOp gMod (eCall gToInt (aCons (eOp gMul (eVar 1) (eC (.int 18037))) aNil)) (eOp gPow (eC (.int 10)) (eC (.int 9)))))))
  sNext)
  (sRet (own0 (eOp gMod (eCall gToInt (aCons (eOp gDiv (eVar 1) (eC (.int 4))) aNil)) (eC (.int 61))))))))
noncomputable def m_law_number : FM := fnM 1 2 c_law_number
theorem ok_law_number (T : Txt P K mg) : FnOk P w K mg base (L2N.CX P w) 2 T.a_law_number T.fd_law_number ["_law_cell_here"] (spM K m_law_number) :=
  fn_okM (k := 1) (F := c_law_number) 1 2 rfl rfl T.F_law_number sc_law_number fun cdv A outer s H E hr => by
    unfold c_law_number 
    exact (ss_cons (s_set (i := 1) sc_law_number.nd rfl (Or.inl rfl) (m_of_b (b_ix (b_of_m (m_call (ok_law_digits T) takes_cx (hr.mono (by decide)) (by rfl) T.g_law_digits T.k_law_digits T.b_law_digits (a_cons (b_var 0) (a_cons b_int (a_cons b_int a_nil))))) b_int)))
    (ss_cons (s_if (t_cmp (op_eqA (units_cx hr)) ok_eq (b_mod (b_toInt (by rfl) T.z_int (ah_cons (b_var 1) ah_nil)) b_int) b_int (nomark _)) (ss_one (s_ret (m_of_b (b_sub (b_neg b_int) (b_mod (b_toInt (by rfl) T.z_int (ah_cons (b_div (b_var 1) b_int) ah_nil)) b_int))))) ss_nil)
    (ss_cons (s_if (t_cmp (op_eqA (units_cx hr)) ok_eq (b_mod (b_toInt (by rfl) T.z_int (ah_cons (b_var 1) ah_nil)) b_int) b_int (nomark _)) (ss_one (s_ret (m_of_b (b_add b_int (b_mod (b_toInt (by rfl) T.z_int (ah_cons (b_mul (b_var 1) b_int) ah_nil)) (b_pow b_int b_int)))))) ss_nil)
    (ss_one (s_ret (m_of_b (b_mod (b_toInt (by rfl) T.z_int (ah_cons (b_div (b_var 1) b_int) ah_nil)) b_int)))))))
/-! ### _law_text -/
theorem sc_law_text : FnScope ["_law_cell_here", "_law_signs", "_law_row", "_law_text_here", "_law_digit"] ["_law_cell_here"] (defScope s_law_text) := ⟨rfl, rfl, rfl, by decide +kernel, rfl, by decide +kernel, by decide +kernel⟩
noncomputable def c_law_text_1 : SM :=
  (sAsg 3 (own0 (eOp gCatS (eVar 3) (eIx (eVar 1) (eOp gMod (eCall gToInt (aCons (eVar 4) aNil)) (eC (.int 94)))))))
noncomputable def c_law_text : SM :=
  (sSeq (sAsg 1 (own0 (eC (.str " !\"#$&'()*+,-./0123456789:;<=>?@ABCDEFGHIJKLMNOPQRSTUVWXYZ[\\]^_`"))))
  (sSeq (sAsg 1 (own0 (eOp gCatS (eVar 1) (eC (.str "abcdefghijklmnopqrstuvwxyz{|}~")))))
  (sSeq (sAsg 2 (eFn m_law_digits (a0Cons (eVar 0) (a0Cons (eC (.int 10)) (a0Cons (eC (.int 55440)) aNil)))))
  (sSeq (sAsg 3 (own0 (eC (.str ""))))
  (sSeq (sFor (iSeq (frzE (eSl (eVar 2) (pSome (eC (.int 1))) (pSome (eOp gAdd (eC (.int 1)) (eOp gMod (eCall gToInt (aCons (eIx (eVar 2) (eC (.int 0))) aNil)) (eC (.int 10)))))))) (tgName 4) c_law_text_1)
  (sRetV 3))))))
noncomputable def m_law_text : FM := fnM 1 5 c_law_text
theorem ok_law_text (T : Txt P K mg) : FnOk P w K mg base (L2N.CX P w) 2 T.a_law_text T.fd_law_text ["_law_cell_here"] (spM K m_law_text) :=
  fn_okM (k := 1) (F := c_law_text) 1 5 rfl rfl T.F_law_text sc_law_text fun cdv A outer s H E hr => by
    unfold c_law_text c_law_text_1
    exact (ss_cons (s_set (i := 1) sc_law_text.nd rfl (Or.inl rfl) (m_of_b b_str))
    (ss_cons (s_set (i := 1) sc_law_text.nd rfl (Or.inl rfl) (m_of_b (b_catS (b_var 1) b_str)))
    (ss_cons (s_set (i := 2) sc_law_text.nd rfl (Or.inl rfl) (m_call (ok_law_digits T) takes_cx (hr.mono (by decide)) (by rfl) T.g_law_digits T.k_law_digits T.b_law_digits (a_cons (b_var 0) (a_cons b_int (a_cons b_int a_nil)))))
    (ss_cons (s_set (i := 3) sc_law_text.nd rfl (Or.inl rfl) (m_of_b b_str))
    (ss_cons (s_for passes_cx rfl (i_list (b_of_m (m_sl (b_var 2) (o_some b_int) (o_some (b_add b_int (b_mod (b_toInt (by rfl) T.z_int (ah_cons (b_ix (b_var 2) b_int) ah_nil)) b_int)))))) (pg_name (i := 4) sc_law_text.nd rfl (Or.inl rfl)) tg_name (ss_one (s_set (i := 3) sc_law_text.nd rfl (Or.inl rfl) (m_of_b (b_catS (b_var 3) (b_ix (b_var 1) (b_mod (b_toInt (by rfl) T.z_int (ah_cons (b_var 4) ah_nil)) b_int)))))))
    (ss_one (s_retV 3)))))))
/-! ### law -/
theorem sc_law : FnScope ["_law_script", "_law_one", "_law_two", "_law_text_here", "_law_k"] ["_law_script"] (defScope s_law) := ⟨rfl, rfl, rfl, by decide +kernel, rfl, by decide +kernel, by decide +kernel⟩
noncomputable def c_law_1 (T : Txt P K mg) : SM :=
  (sIf (tyNot (eTest (eFnF (m_law_raised T) (aCons (eVar 4) (aCons (eVar 1) (aCons (eVar 2) (aCons (eVar 3) aNil)))))))
  (sRet (own0 (eC (.bl false))))
  sNext)
noncomputable def c_law (T : Txt P K mg) : SM :=
  (sSeq (sAsg 1 (own0 (eFnF m_law_number (aCons (eFnF m_law_seed (aCons (eVar 0) (aCons (eC (.int 0)) aNil))) aNil))))
  (sSeq (sAsg 2 (own0 (eFnF m_law_number (aCons (eFnF m_law_seed (aCons (eVar 0) (aCons (eC (.int 1)) aNil))) aNil))))
  (sSeq (sAsg 3 (own0 (eFnF m_law_text (aCons (eFnF m_law_seed (aCons (eVar 0) (aCons (eC (.int 2)) aNil))) aNil))))
  (sSeq (sFor (iRg1 (aCons (eC (.int 36)) aNil)) (tgName 4) (c_law_1 T))
  (sRet (own0 (eC (.bl true))))))))
noncomputable def m_law (T : Txt P K mg) : FM := fnM 1 5 (c_law T)
theorem ok_law (T : Txt P K mg) : FnOk P w K mg base (L2N.CX P w) 5 T.a_law T.fd_law ["_law_script"] (spM K (m_law T)) :=
  fn_okM (k := 4) (F := (c_law T)) 1 5 rfl rfl T.F_law sc_law fun cdv A outer s H E hr => by
    unfold c_law c_law_1
    exact (ss_cons (s_set (i := 1) sc_law.nd rfl (Or.inl rfl) (m_of_b (b_callF (ok_law_number T) takes_cx (hr.mono (by decide)) (by rfl) T.g_law_number T.k_law_number T.b_law_number (ah_cons (b_callF (ok_law_seed T) takes_cx (hr.mono (by decide)) (by rfl) T.g_law_seed T.k_law_seed T.b_law_seed (ah_cons (b_var 0) (ah_cons b_int ah_nil))) ah_nil))))
    (ss_cons (s_set (i := 2) sc_law.nd rfl (Or.inl rfl) (m_of_b (b_callF (ok_law_number T) takes_cx (hr.mono (by decide)) (by rfl) T.g_law_number T.k_law_number T.b_law_number (ah_cons (b_callF (ok_law_seed T) takes_cx (hr.mono (by decide)) (by rfl) T.g_law_seed T.k_law_seed T.b_law_seed (ah_cons (b_var 0) (ah_cons b_int ah_nil))) ah_nil))))
    (ss_cons (s_set (i := 3) sc_law.nd rfl (Or.inl rfl) (m_of_b (b_callF (ok_law_text T) takes_cx (hr.mono (by decide)) (by rfl) T.g_law_text T.k_law_text T.b_law_text (ah_cons (b_callF (ok_law_seed T) takes_cx (hr.mono (by decide)) (by rfl) T.g_law_seed T.k_law_seed T.b_law_seed (ah_cons (b_var 0) (ah_cons b_int ah_nil))) ah_nil))))
    (ss_cons (s_for passes_cx rfl (i_range1 (by rfl) T.z_range (ah_cons b_int ah_nil)) (pg_name (i := 4) sc_law.nd rfl (Or.inl rfl)) tg_name (ss_one (s_if (t_not (t_val (b_callF (ok_law_raised T) takes_cx (hr.mono (by decide)) (by rfl) T.g_law_raised T.k_law_raised T.b_law_raised (ah_cons (b_var 4) (ah_cons (b_var 1) (ah_cons (b_var 2) (ah_cons (b_var 3) ah_nil))))))) (ss_one (s_ret (m_of_b b_bl))) ss_nil)))
    (ss_one (s_ret (m_of_b b_bl)))))))
end
end K70

namespace K70
open PySem L2 Mv
def rl (ns : List Int) : D := .rdl (ns.map .int)
theorem rl_len {ns : List Int} {ss : En} {i n : Nat} (h : ss[i]? = some (.v n (rl ns))) : eCall gLen (aCons (eVar i) aNil) ss = .ok (0, .int (ns.length : Int)) := call_ok (aOne (var_ok h)) (by simp [rl, gLen])
theorem rl_ix {ns : List Int} {n d : Nat} {x : Int} (h : ns[d]? = some x) : ixD n (rl ns) (.int (d : Int)) = some (0, .int x) := by
  unfold rl ixD
  dsimp only
  rw [atI_nat (k := d) (x := D.int x) (by simp [h])]
  rfl
theorem cell_abs {ns : List Int} {k : Nat} {rest : SM} (h : ∃ c : Int, 0 ≤ c ∧ rest [.v 0 (rl ns), .v 0 (.int (k : Int))] = .rt 0 (.int c)) :
    ∃ c : Int, 0 ≤ c ∧ (sSeq (sIf (eTest (eOp gLt (eVar 1) (eCall gLen (aCons (eVar 0) aNil)))) (sRet (own0 (eCall gAbs (aCons (eIx (eVar 0) (eVar 1)) aNil)))) sNext) rest) [.v 0 (rl ns), .v 0 (.int (k : Int))] = .rt 0 (.int c) := by
  have t : (eTest (eOp gLt (eVar 1) (eCall gLen (aCons (eVar 0) aNil)))) [.v 0 (rl ns), .v 0 (.int (k : Int))] = .ok (decide ((k : Int) < (ns.length : Int))) := test_ok (lt_ok (var_ok rfl) (rl_len rfl))
  by_cases hk : k < ns.length
  · have e : decide ((k : Int) < (ns.length : Int)) = true := decide_eq_true (by omega)
    rw [e] at t
    have ix : eIx (eVar 0) (eVar 1) [.v 0 (rl ns), .v 0 (.int (k : Int))] = .ok (0, .int ns[k]) := by
      unfold eIx
      rw [var_ok (i := 0) (n := 0) (d := rl ns) rfl, var_ok (i := 1) (n := 0) (d := .int (k : Int)) rfl]
      simp only [rl_ix (List.getElem?_eq_getElem hk)]
    refine ⟨if ns[k] < 0 then -ns[k] else ns[k], by split <;> omega, ?_⟩
    exact seq_rt ((if_t t).trans (ret_ok (own0_ok (call_ok (aOne ix) rfl))))
  · have e : decide ((k : Int) < (ns.length : Int)) = false := decide_eq_false (by omega)
    rw [e] at t
    obtain ⟨c, hc, h⟩ := h
    exact ⟨c, hc, (seq_nx (if_f t)).trans h⟩
theorem v_cell (ns : List Int) (k : Nat) : ∃ c : Int, 0 ≤ c ∧ m_law_cell [rl ns, .int (k : Int)] = .ok (0, .int c) := by
  obtain ⟨c, hc, h⟩ := cell_abs (ns := ns) (k := k) (rest := sRet (own0 (eC (.int 0)))) ⟨0, by decide, rfl⟩
  exact ⟨c, hc, fn_rt rfl rfl h⟩
theorem modb (a : Int) {b : Int} (h : 0 < b) : 0 ≤ a % b ∧ a % b < b := ⟨Int.emod_nonneg _ (by omega), Int.emod_lt_of_pos _ h⟩
theorem d_step (c count size : Int) (row : List Int) (rest : Int) (k : Nat) (o6 : Sl) (hs : 0 < size) (hs2 : size ≤ 1000000000) (hk : k < 1000000) (hr : row.length < 10000000) :
    ∃ v rest' o6', 0 ≤ v ∧ v < size ∧ c_law_digits_1 [.v 0 (.int c), .v 0 (.int count), .v 0 (.int size), .v 1 (il row), .v 0 (.int rest), .v 0 (.int (k : Int)), o6] =
      .nx [.v 0 (.int c), .v 0 (.int count), .v 0 (.int size), .v 1 (il (row ++ [v])), .v 0 (.int rest'), .v 0 (.int (k : Int)), o6'] := by
  have t1 : (eTest (eOp gGe (eVar 0) (eOp gPow (eC (.int 10)) (eC (.int 18))))) [.v 0 (.int c), .v 0 (.int count), .v 0 (.int size), .v 1 (il row), .v 0 (.int rest), .v 0 (.int (k : Int)), o6] = .ok (decide ((10 : Int) ^ 18 ≤ c)) := test_ok (ge_ok (var_ok rfl) (pow_ok (n := 18) (by decide) (by decide)))
  have t2 : (eTest (eOp gGt (eVar 4) (eC (.int 0)))) [.v 0 (.int c), .v 0 (.int count), .v 0 (.int size), .v 1 (il row), .v 0 (.int rest), .v 0 (.int (k : Int)), o6] = .ok (decide (0 < rest)) := test_ok (gt_ok (var_ok rfl) c_ok)
  have t := tand_ok t1 t2
  unfold c_law_digits_1
  cases hb : (decide ((10 : Int) ^ 18 ≤ c) && decide (0 < rest)) with
  | true =>
    rw [hb] at t
    have b1 : (sApp 3 (own0 (eOp gMod (eCall gToInt (aCons (eVar 4) aNil)) (eVar 2)))) [.v 0 (.int c), .v 0 (.int count), .v 0 (.int size), .v 1 (il row), .v 0 (.int rest), .v 0 (.int (k : Int)), o6] = .nx [.v 0 (.int c), .v 0 (.int count), .v 0 (.int size), .v 1 (il (row ++ [rest % size])), .v 0 (.int rest), .v 0 (.int (k : Int)), o6] :=
      app_il (own0_ok (mod_ok (toInt_ok (var_ok rfl)) (var_ok rfl) hs)) rfl hr
    have b2 : (sAsg 4 (own0 (eOp gDiv (eVar 4) (eVar 2)))) [.v 0 (.int c), .v 0 (.int count), .v 0 (.int size), .v 1 (il (row ++ [rest % size])), .v 0 (.int rest), .v 0 (.int (k : Int)), o6] = .nx [.v 0 (.int c), .v 0 (.int count), .v 0 (.int size), .v 1 (il (row ++ [rest % size])), .v 0 (.int (rest / size)), .v 0 (.int (k : Int)), o6] :=
      asg_ok (own0_ok (div_ok (var_ok rfl) (var_ok rfl) hs (by omega)))
    exact ⟨_, _, _, (modb rest hs).1, (modb rest hs).2, (if_t t).trans ((seq_nx b1).trans b2)⟩
  | false =>
    rw [hb] at t
    obtain ⟨m1, e1⟩ : ∃ m1, m1 = (c + 7919 * (k : Int) + 13) % 2147483647 := ⟨_, rfl⟩
    obtain ⟨m2, e2⟩ : ∃ m2, m2 = (m1 * (m1 + 48271)) % 2147483629 := ⟨_, rfl⟩
    obtain ⟨m3, e3⟩ : ∃ m3, m3 = (m2 * (m2 + 69621) + 31 * (k : Int)) % 2147483647 := ⟨_, rfl⟩
    have r1 := modb (c + 7919 * (k : Int) + 13) (b := 2147483647) (by decide)
    have r2 := modb (m1 * (m1 + 48271)) (b := 2147483629) (by decide)
    rw [← e1] at r1
    rw [← e2] at r2
    have b1 : (sAsg 6 (own0 (eOp gMod (eCall gToInt (aCons (eOp gAdd (eOp gAdd (eVar 0) (eOp gMul (eC (.int 7919)) (eVar 5))) (eC (.int 13))) aNil)) (eC (.int 2147483647))))) [.v 0 (.int c), .v 0 (.int count), .v 0 (.int size), .v 1 (il row), .v 0 (.int rest), .v 0 (.int (k : Int)), o6] = .nx [.v 0 (.int c), .v 0 (.int count), .v 0 (.int size), .v 1 (il row), .v 0 (.int rest), .v 0 (.int (k : Int)), .v 0 (.int m1)] := by
      rw [e1]
      exact asg_ok (own0_ok (mod_ok (toInt_ok (add_ok (add_ok (var_ok rfl) (mul_ok c_ok (var_ok rfl) (by omega) (by omega) (by omega) (by omega))) c_ok)) c_ok (by decide)))
    have b2 : (sAsg 6 (own0 (eOp gMod (eCall gToInt (aCons (eOp gMul (eVar 6) (eOp gAdd (eVar 6) (eC (.int 48271)))) aNil)) (eC (.int 2147483629))))) [.v 0 (.int c), .v 0 (.int count), .v 0 (.int size), .v 1 (il row), .v 0 (.int rest), .v 0 (.int (k : Int)), .v 0 (.int m1)] = .nx [.v 0 (.int c), .v 0 (.int count), .v 0 (.int size), .v 1 (il row), .v 0 (.int rest), .v 0 (.int (k : Int)), .v 0 (.int m2)] := by
      rw [e2]
      exact asg_ok (own0_ok (mod_ok (toInt_ok (mul_ok (var_ok rfl) (add_ok (var_ok rfl) c_ok) (by omega) (by omega) (by omega) (by omega))) c_ok (by decide)))
    have b3 : (sAsg 6 (own0 (eOp gMod (eCall gToInt (aCons (eOp gAdd (eOp gMul (eVar 6) (eOp gAdd (eVar 6) (eC (.int 69621)))) (eOp gMul (eC (.int 31)) (eVar 5))) aNil)) (eC (.int 2147483647))))) [.v 0 (.int c), .v 0 (.int count), .v 0 (.int size), .v 1 (il row), .v 0 (.int rest), .v 0 (.int (k : Int)), .v 0 (.int m2)] = .nx [.v 0 (.int c), .v 0 (.int count), .v 0 (.int size), .v 1 (il row), .v 0 (.int rest), .v 0 (.int (k : Int)), .v 0 (.int m3)] := by
      rw [e3]
      exact asg_ok (own0_ok (mod_ok (toInt_ok (add_ok (mul_ok (var_ok rfl) (add_ok (var_ok rfl) c_ok) (by omega) (by omega) (by omega) (by omega)) (mul_ok c_ok (var_ok rfl) (by omega) (by omega) (by omega) (by omega)))) c_ok (by decide)))
    have b4 : (sApp 3 (own0 (eOp gMod (eCall gToInt (aCons (eOp gDiv (eVar 6) (eC (.int 9))) aNil)) (eVar 2)))) [.v 0 (.int c), .v 0 (.int count), .v 0 (.int size), .v 1 (il row), .v 0 (.int rest), .v 0 (.int (k : Int)), .v 0 (.int m3)] = .nx [.v 0 (.int c), .v 0 (.int count), .v 0 (.int size), .v 1 (il (row ++ [(m3 / 9) % size])), .v 0 (.int rest), .v 0 (.int (k : Int)), .v 0 (.int m3)] :=
      app_il (own0_ok (mod_ok (toInt_ok (div_ok (var_ok rfl) c_ok (by decide) (by decide))) (var_ok rfl) hs)) rfl hr
    exact ⟨_, _, _, (modb (m3 / 9) hs).1, (modb (m3 / 9) hs).2, (if_f t).trans ((seq_nx b1).trans ((seq_nx b2).trans ((seq_nx b3).trans b4)))⟩
theorem v_digits (c size : Int) (count : Nat) (hs : 0 < size) (hs2 : size ≤ 1000000000) (hc : count ≤ 100000) : ∃ row, m_law_digits [.int c, .int (count : Int), .int size] = .ok (1, il row) ∧ row.length = count ∧ ∀ x ∈ row, 0 ≤ x ∧ x < size := by
  obtain ⟨s', h1, row, rest, o5, o6, h2, h3, h4⟩ := loop_nx (step := stepF (tgName 5) c_law_digits_1) (fun k st => ∃ (row : List Int) (rest : Int) (o5 o6 : Sl), st = [.v 0 (.int c), .v 0 (.int (count : Int)), .v 0 (.int size), .v 1 (il row), .v 0 (.int rest), o5, o6] ∧ row.length = k ∧ ∀ x ∈ row, 0 ≤ x ∧ x < size) (rngD 0 count)
    [.v 0 (.int c), .v 0 (.int (count : Int)), .v 0 (.int size), .v 1 (il []), .v 0 (.int c), .un, .un] ⟨[], _, _, _, rfl, rfl, fun x hx => by cases hx⟩ (by
      rintro k d st hd ⟨row, rest, o5, o6, rfl, h3, h4⟩
      obtain ⟨hk, rfl⟩ := rngD_get hd
      have se : ([.v 0 (.int c), .v 0 (.int (count : Int)), .v 0 (.int size), .v 1 (il row), .v 0 (.int rest), o5, o6] : En).set 5 (.v 0 (.int (0 + (k : Int)))) = [.v 0 (.int c), .v 0 (.int (count : Int)), .v 0 (.int size), .v 1 (il row), .v 0 (.int rest), .v 0 (.int (k : Int)), o6] := by
        rw [Int.zero_add]; rfl
      obtain ⟨v, rest', o6', v1, v2, e⟩ := d_step c count size row rest k o6 hs hs2 (by omega) (by omega)
      refine ⟨_, .inl ((step_eq se).trans e), row ++ [v], rest', _, _, rfl, by rw [List.length_append, h3]; rfl, fun x hx => ?_⟩
      obtain hx | hx := List.mem_append.mp hx
      · exact h4 x hx
      · rw [List.mem_singleton.mp hx]; exact ⟨v1, v2⟩)
  rw [rngD_len] at h3
  subst h2
  refine ⟨row, ?_, h3, h4⟩
  have a1 : (sAsg 3 (eLst aNil)) [.v 0 (.int c), .v 0 (.int (count : Int)), .v 0 (.int size), .un, .un, .un, .un] = .nx [.v 0 (.int c), .v 0 (.int (count : Int)), .v 0 (.int size), .v 1 (il []), .un, .un, .un] := asg_ok rfl
  have a2 : (sAsg 4 (own0 (eVar 0))) [.v 0 (.int c), .v 0 (.int (count : Int)), .v 0 (.int size), .v 1 (il []), .un, .un, .un] = .nx [.v 0 (.int c), .v 0 (.int (count : Int)), .v 0 (.int size), .v 1 (il []), .v 0 (.int c), .un, .un] := asg_ok (own0_ok (var_ok rfl))
  have a3 := for_rng (t := tgName 5) (F := c_law_digits_1) (ss := [.v 0 (.int c), .v 0 (.int (count : Int)), .v 0 (.int size), .v 1 (il []), .v 0 (.int c), .un, .un]) (g := aCons (eVar 1) aNil) (n := count) (aOne (var_ok rfl)) (by omega)
  unfold m_law_digits c_law_digits
  exact fn_rt rfl rfl ((seq_nx a1).trans ((seq_nx a2).trans ((seq_nx (a3.trans h1)).trans (retV_ok rfl))))
theorem v_seed (ns : List Int) (k : Int) (h0 : 0 ≤ k) (h1 : k ≤ 1000) : ∃ c : Int, 0 ≤ c ∧ m_law_seed [rl ns, .int k] = .ok (0, .int c) := by
  obtain ⟨k, rfl⟩ := Int.eq_ofNat_of_zero_le h0
  obtain ⟨c0, _, e0⟩ := v_cell ns 0
  have e0' : m_law_cell [rl ns, .int 0] = .ok (0, .int c0) := e0
  obtain ⟨row, e1, e2, e3⟩ := v_digits (c0 + 101 * (k : Int) + 7) (10 ^ 9) 1 (by decide) (by decide) (by decide)
  obtain ⟨x, hx⟩ : ∃ x, row[0]? = some x := ⟨row[0]'(by omega), List.getElem?_eq_getElem (by omega)⟩
  have hm : x ∈ row := List.mem_of_getElem? hx
  have q : (sRet (own0 (eIx (frzE (eFn m_law_digits (a0Cons (eOp gAdd (eOp gAdd (eFnF m_law_cell (aCons (eVar 0) (aCons (eC (.int 0)) aNil))) (eOp gMul (eC (.int 101)) (eVar 1))) (eC (.int 7))) (a0Cons (eC (.int 1)) (a0Cons (eOp gPow (eC (.int 10)) (eC (.int 9))) aNil))))) (eC (.int 0))))) [.v 0 (rl ns), .v 0 (.int (k : Int))] = .rt 0 (.int x) := by
    have a : (a0Cons (eOp gAdd (eOp gAdd (eFnF m_law_cell (aCons (eVar 0) (aCons (eC (.int 0)) aNil))) (eOp gMul (eC (.int 101)) (eVar 1))) (eC (.int 7))) (a0Cons (eC (.int 1)) (a0Cons (eOp gPow (eC (.int 10)) (eC (.int 9))) aNil))) [.v 0 (rl ns), .v 0 (.int (k : Int))] = .ok [.int (c0 + 101 * (k : Int) + 7), .int ((1 : Nat) : Int), .int (10 ^ 9)] :=
      a0_ok (add_ok (add_ok (fnF_ok (aC_ok (var_ok rfl) (aC_ok c_ok rfl)) e0' rfl) (mul_ok c_ok (var_ok rfl) (by omega) (by omega) (by omega) (by omega))) c_ok) (a0_ok c_ok (a0_ok (pow_ok (n := 9) (by decide) (by decide)) rfl))
    exact ret_ok (own0_ok (ixi_ok (k := 0) (frz_ok ((fn_ok' a).trans e1)) c_ok hx))
  obtain ⟨c, hc, h⟩ := cell_abs (ns := ns) (k := k) ⟨x, (e3 x hm).1, q⟩
  exact ⟨c, hc, fn_rt rfl rfl h⟩
end K70

namespace K70
open PySem L2 Mv
theorem neg9 {ss : En} : eUn gNeg (eC (.int 9)) ss = .ok (0, .int (-9)) := un_ok c_ok rfl
theorem v_number (c : Int) : ∃ n : Int, -2000000000 < n ∧ n < 2000000000 ∧ m_law_number [.int c] = .ok (0, .int n) := by
  obtain ⟨row, e1, e2, e3⟩ := v_digits c 55440 1 (by decide) (by decide) (by decide)
  obtain ⟨x, hx⟩ : ∃ x, row[0]? = some x := ⟨row[0]'(by omega), List.getElem?_eq_getElem (by omega)⟩
  obtain ⟨x0, x1⟩ := e3 x (List.mem_of_getElem? hx)
  have a : (a0Cons (eVar 0) (a0Cons (eC (.int 1)) (a0Cons (eC (.int 55440)) aNil))) [.v 0 (.int c), .un] = .ok [.int c, .int ((1 : Nat) : Int), .int 55440] := a0_ok (var_ok rfl) (a0_ok c_ok (a0_ok c_ok rfl))
  have b : (sAsg 1 (own0 (eIx (frzE (eFn m_law_digits (a0Cons (eVar 0) (a0Cons (eC (.int 1)) (a0Cons (eC (.int 55440)) aNil))))) (eC (.int 0))))) [.v 0 (.int c), .un] = .nx [.v 0 (.int c), .v 0 (.int x)] :=
    asg_ok (own0_ok (ixi_ok (k := 0) (frz_ok ((fn_ok' a).trans e1)) c_ok hx))
  have t1 : (eTest (eOp gEq (eOp gMod (eCall gToInt (aCons (eVar 1) aNil)) (eC (.int 4))) (eC (.int 1)))) [.v 0 (.int c), .v 0 (.int x)] = .ok (decide (x % 4 = 1)) := test_ok (eq_ok (mod_ok (toInt_ok (var_ok rfl)) c_ok (by decide)) c_ok)
  have t2 : (eTest (eOp gEq (eOp gMod (eCall gToInt (aCons (eVar 1) aNil)) (eC (.int 4))) (eC (.int 2)))) [.v 0 (.int c), .v 0 (.int x)] = .ok (decide (x % 4 = 2)) := test_ok (eq_ok (mod_ok (toInt_ok (var_ok rfl)) c_ok (by decide)) c_ok)
  unfold m_law_number c_law_number
  cases h1 : decide (x % 4 = 1) with
  | true =>
    rw [h1] at t1
    have := modb (x / 4) (b := 1000) (by decide)
    exact ⟨-9 - x / 4 % 1000, by omega, by omega, fn_rt rfl rfl ((seq_nx b).trans (seq_rt ((if_t t1).trans (ret_ok (own0_ok (sub_ok neg9 (mod_ok (toInt_ok (div_ok (var_ok rfl) c_ok (by decide) (by decide))) c_ok (by decide))))))))⟩
  | false =>
    rw [h1] at t1
    cases h2 : decide (x % 4 = 2) with
    | true =>
      rw [h2] at t2
      have := modb (x * 18037) (b := 10 ^ 9) (by decide)
      exact ⟨1 + x * 18037 % 10 ^ 9, by omega, by omega, fn_rt rfl rfl ((seq_nx b).trans ((seq_nx (if_f t1)).trans (seq_rt ((if_t t2).trans (ret_ok (own0_ok (add_ok c_ok (mod_ok (toInt_ok (mul_ok (var_ok rfl) c_ok (by omega) (by omega) (by omega) (by omega))) (pow_ok (n := 9) (by decide) (by decide)) (by decide)))))))))⟩
    | false =>
      rw [h2] at t2
      have := modb (x / 4) (b := 61) (by decide)
      exact ⟨x / 4 % 61, by omega, by omega, fn_rt rfl rfl ((seq_nx b).trans ((seq_nx (if_f t1)).trans ((seq_nx (if_f t2)).trans (ret_ok (own0_ok (mod_ok (toInt_ok (div_ok (var_ok rfl) c_ok (by decide) (by decide))) c_ok (by decide)))))))⟩

/-! ### the text -/
def sg1 : Str := " !\"#$&'()*+,-./0123456789:;<=>?@ABCDEFGHIJKLMNOPQRSTUVWXYZ[\\]^_`"
def sg2 : Str := "abcdefghijklmnopqrstuvwxyz{|}~"
theorem sg_len : (sg1 ++ sg2).cps.toList.length = 94 := by decide +kernel
theorem sg_le : (sg1 ++ sg2).length ≤ sizeLine := by
  have : (sg1 ++ sg2).length = 94 := by decide +kernel
  rw [this, sizeLine_eq]
  decide
theorem sg_ok : (sg1 ++ sg2).cps.toList.all (· < 0x110000) = true := by decide +kernel
theorem catS_ok {f1 f2 : EB} {ss : En} {n m : Nat} {x y : Str} (h1 : f1 ss = .ok (n, .str x)) (h2 : f2 ss = .ok (m, .str y)) (h : x.length + y.length ≤ sizeLine) : eOp gCatS f1 f2 ss = .ok (0, .str (x ++ y)) :=
  op_ok h1 h2 (by unfold gCatS; dsimp only; rw [if_pos h])
theorem ixS_ok {f g : EB} {ss : En} {m n k : Nat} {x : Str} {c : Nat} (h : f ss = .ok (n, .str x)) (hl : x.length ≤ sizeLine) (hg : g ss = .ok (m, .int (k : Int))) (hx : x.cps.toList[k]? = some c) : eIx f g ss = .ok (0, .str ⟨#[c]⟩) := by
  unfold eIx
  rw [h]
  dsimp only
  rw [hg]
  dsimp only
  have : ixD n (.str x) (.int (k : Int)) = some (0, .str ⟨#[c]⟩) := by
    unfold ixD
    dsimp only
    rw [if_pos hl, Mv.atI_nat hx]
    rfl
  rw [this]
theorem cut_any {xs : List Int} {lo hi : Option Int} : ∃ ys : List Int, cutD (xs.map .int) lo hi = ys.map .int ∧ ys.length ≤ xs.length ∧ ∀ y ∈ ys, y ∈ xs := by
  unfold cutD
  refine ⟨(xs.drop (HT.sIx (xs.map D.int).length 0 lo)).take (HT.sIx (xs.map D.int).length (xs.map D.int).length hi - HT.sIx (xs.map D.int).length 0 lo), ?_, ?_, fun y hy => List.mem_of_mem_drop (List.mem_of_mem_take hy)⟩
  · rw [List.map_take, List.map_drop]
  · rw [List.length_take, List.length_drop]; omega
theorem sl_any {f g h : EB} {ss : En} {n m m' : Nat} {a b : Int} {xs : List Int} (h1 : f ss = .ok (n, il xs)) (hn : n ≤ 1) (h2 : g ss = .ok (m, .int a)) (h3 : h ss = .ok (m', .int b)) : eSl f (pSome g) (pSome h) ss = .ok (1, .lst (cutD (xs.map .int) (some a) (some b))) := by
  unfold eSl pSome
  unfold il at h1
  simp only [h1, h2, h3, hn, if_true]
theorem strOk_app {x y : Str} (h1 : PyData.strOk x = true) (h2 : PyData.strOk y = true) : PyData.strOk (x ++ y) = true := by
  unfold PyData.strOk at *
  show (x.cps ++ y.cps).all _ = true
  rw [Array.all_append, h1, h2]
  rfl
theorem text_step (c : Int) (row : List Int) (t : Str) (d : Int) (o : Sl) (ht : t.length ≤ 1000) (hok : PyData.strOk t = true) :
    ∃ t' : Str, t'.length = t.length + 1 ∧ PyData.strOk t' = true ∧ c_law_text_1 [.v 0 (.int c), .v 0 (.str (sg1 ++ sg2)), .v 1 (il row), .v 0 (.str t), .v 0 (.int d)] = .nx [.v 0 (.int c), .v 0 (.str (sg1 ++ sg2)), .v 1 (il row), .v 0 (.str t'), .v 0 (.int d)] := by
  obtain ⟨h0, h1⟩ := modb d (b := 94) (by decide)
  obtain ⟨k, hk⟩ := Int.eq_ofNat_of_zero_le h0
  have hk' : k < (sg1 ++ sg2).cps.toList.length := by rw [sg_len]; omega
  have hx : (sg1 ++ sg2).cps.toList[k]? = some ((sg1 ++ sg2).cps.toList[k]) := List.getElem?_eq_getElem hk'
  have hc : (sg1 ++ sg2).cps.toList[k] < 0x110000 := of_decide_eq_true (List.all_eq_true.mp sg_ok _ (List.getElem_mem hk'))
  generalize (sg1 ++ sg2).cps.toList[k] = ch at hx hc
  have g : (eOp gMod (eCall gToInt (aCons (eVar 4) aNil)) (eC (.int 94))) [.v 0 (.int c), .v 0 (.str (sg1 ++ sg2)), .v 1 (il row), .v 0 (.str t), .v 0 (.int d)] = .ok (0, .int (k : Int)) := by
    rw [← hk]
    exact mod_ok (toInt_ok (var_ok rfl)) c_ok (by decide)
  have e := ixS_ok (f := eVar 1) (n := 0) (ss := [.v 0 (.int c), .v 0 (.str (sg1 ++ sg2)), .v 1 (il row), .v 0 (.str t), .v 0 (.int d)]) (var_ok rfl) sg_le g hx
  refine ⟨t ++ ⟨#[ch]⟩, ?_, strOk_app hok (by unfold PyData.strOk; simpa using hc), asg_ok (own0_ok (catS_ok (var_ok rfl) e ?_))⟩
  · show (t.cps ++ #[ch]).size = _
    rw [Array.size_append]
    rfl
  · show t.length + 1 ≤ _
    rw [sizeLine_eq]
    omega
theorem v_text (c : Int) : ∃ t : Str, t.length ≤ 1000 ∧ PyData.strOk t = true ∧ m_law_text [.int c] = .ok (0, .str t) := by
  obtain ⟨row, e1, e2, e3⟩ := v_digits c 55440 10 (by decide) (by decide) (by decide)
  obtain ⟨x, hx⟩ : ∃ x, row[0]? = some x := ⟨row[0]'(by omega), List.getElem?_eq_getElem (by omega)⟩
  have b1 : (sAsg 1 (own0 (eC (.str sg1)))) [.v 0 (.int c), .un, .un, .un, .un] = .nx [.v 0 (.int c), .v 0 (.str sg1), .un, .un, .un] := asg_ok (own0_ok c_ok)
  have b2 : (sAsg 1 (own0 (eOp gCatS (eVar 1) (eC (.str sg2))))) [.v 0 (.int c), .v 0 (.str sg1), .un, .un, .un] = .nx [.v 0 (.int c), .v 0 (.str (sg1 ++ sg2)), .un, .un, .un] :=
    asg_ok (own0_ok (catS_ok (var_ok rfl) c_ok (by rw [sizeLine_eq]; decide +kernel)))
  have a : (a0Cons (eVar 0) (a0Cons (eC (.int 10)) (a0Cons (eC (.int 55440)) aNil))) [.v 0 (.int c), .v 0 (.str (sg1 ++ sg2)), .un, .un, .un] = .ok [.int c, .int ((10 : Nat) : Int), .int 55440] := a0_ok (var_ok rfl) (a0_ok c_ok (a0_ok c_ok rfl))
  have b3 : (sAsg 2 (eFn m_law_digits (a0Cons (eVar 0) (a0Cons (eC (.int 10)) (a0Cons (eC (.int 55440)) aNil))))) [.v 0 (.int c), .v 0 (.str (sg1 ++ sg2)), .un, .un, .un] = .nx [.v 0 (.int c), .v 0 (.str (sg1 ++ sg2)), .v 1 (il row), .un, .un] := asg_ok ((fn_ok' a).trans e1)
  have b4 : (sAsg 3 (own0 (eC (.str "")))) [.v 0 (.int c), .v 0 (.str (sg1 ++ sg2)), .v 1 (il row), .un, .un] = .nx [.v 0 (.int c), .v 0 (.str (sg1 ++ sg2)), .v 1 (il row), .v 0 (.str ""), .un] := asg_ok (own0_ok c_ok)
  have p : (eOp gAdd (eC (.int 1)) (eOp gMod (eCall gToInt (aCons (eIx (eVar 2) (eC (.int 0))) aNil)) (eC (.int 10)))) [.v 0 (.int c), .v 0 (.str (sg1 ++ sg2)), .v 1 (il row), .v 0 (.str ""), .un] = .ok (0, .int (1 + x % 10)) :=
    add_ok c_ok (mod_ok (toInt_ok (ixi1_ok (k := 0) (var_ok rfl) (by decide) c_ok hx)) c_ok (by decide))
  obtain ⟨ys, q1, q2, _⟩ := cut_any (xs := row) (lo := some 1) (hi := some (1 + x % 10))
  have sl : (frzE (eSl (eVar 2) (pSome (eC (.int 1))) (pSome (eOp gAdd (eC (.int 1)) (eOp gMod (eCall gToInt (aCons (eIx (eVar 2) (eC (.int 0))) aNil)) (eC (.int 10))))))) [.v 0 (.int c), .v 0 (.str (sg1 ++ sg2)), .v 1 (il row), .v 0 (.str ""), .un] = .ok (0, il ys) := by
    refine frz_ok (n := 1) ?_
    rw [show il ys = .lst (cutD (row.map .int) (some 1) (some (1 + x % 10))) by rw [q1]; rfl]
    exact sl_any (var_ok rfl) (by decide) c_ok p
  obtain ⟨s', h1, t, o, h2, h3, h4⟩ := loop_nx (step := stepF (tgName 4) c_law_text_1) (fun k st => ∃ (t : Str) (o : Sl), st = [.v 0 (.int c), .v 0 (.str (sg1 ++ sg2)), .v 1 (il row), .v 0 (.str t), o] ∧ t.length = k ∧ PyData.strOk t = true) (ys.map .int)
    [.v 0 (.int c), .v 0 (.str (sg1 ++ sg2)), .v 1 (il row), .v 0 (.str ""), .un] ⟨"", _, rfl, rfl, by decide +kernel⟩ (by
      rintro k d st hd ⟨t, o, rfl, h3, h4⟩
      rw [List.getElem?_map] at hd
      cases hy : ys[k]? with
      | none => rw [hy] at hd; cases hd
      | some y =>
        rw [hy] at hd
        cases hd
        have hk := (List.getElem?_eq_some_iff.mp hy).1
        have se : ([.v 0 (.int c), .v 0 (.str (sg1 ++ sg2)), .v 1 (il row), .v 0 (.str t), o] : En).set 4 (.v 0 (.int y)) = [.v 0 (.int c), .v 0 (.str (sg1 ++ sg2)), .v 1 (il row), .v 0 (.str t), .v 0 (.int y)] := rfl
        obtain ⟨t', g1, g2, g3⟩ := text_step c row t y (.v 0 (.int y)) (by omega) h4
        exact ⟨_, .inl ((step_eq se).trans g3), t', _, rfl, by omega, g2⟩)
  subst h2
  rw [List.length_map] at h3
  refine ⟨t, by omega, h4, ?_⟩
  unfold m_law_text c_law_text
  exact fn_rt rfl rfl ((seq_nx b1).trans ((seq_nx b2).trans ((seq_nx b3).trans ((seq_nx b4).trans ((seq_nx ((for_il sl).trans h1)).trans (retV_ok rfl))))))
end K70

namespace K70
open PySem L2 Mv
/-! ### choosing by the first argument -/
noncomputable def sel : List (Int × SM) → SM → SM
  | [], R => R
  | (c, F) :: l, R => sSeq (sIf (eTest (eOp gEq (eVar 0) (eC (.int c)))) F sNext) (sel l R)
theorem sel_at {k : Int} {ss : En} {F : SM} {e : Exo} {s' : En} (hF : F (.v 0 (.int k) :: ss) = .exc e s') : ∀ {l : List (Int × SM)} {R : SM}, l.lookup k = some F → sel l R (.v 0 (.int k) :: ss) = .exc e s'
  | [], R, h => by cases h
  | (c, G) :: l, R, h => by
    have t : eTest (eOp gEq (eVar 0) (eC (.int c))) (.v 0 (.int k) :: ss) = .ok (decide (k = c)) := test_ok (eq_ok (var_ok rfl) c_ok)
    rw [sel]
    by_cases hk : k = c
    · subst hk
      rw [decide_eq_true rfl] at t
      simp [List.lookup] at h
      subst h
      exact seq_ex ((if_t t).trans hF)
    · rw [decide_eq_false hk] at t
      have hb : (k == c) = false := by simpa using hk
      simp only [List.lookup, hb] at h
      exact (seq_nx (if_f t)).trans (sel_at hF h)
theorem raise1 {C : Addr} {f : Str} {i : Nat} {d : D} {ss : En} (h : ss[i]? = some (.v 0 d)) (hd : fmD d = true) : sRaiseI C [f] (aCons (eVar i) aNil) ss = .exc ⟨C, some [(f, d)]⟩ ss := by
  unfold sRaiseI
  rw [aOne (var_ok h)]
  dsimp only
  rw [if_pos ⟨rfl, (show 1 ≤ 900 by decide), by simp [hd]⟩]
  rfl
theorem raise2 {C : Addr} {f g : Str} {i j : Nat} {d d' : D} {ss : En} (h : ss[i]? = some (.v 0 d)) (hd : fmD d = true) (h' : ss[j]? = some (.v 0 d')) (hd' : fmD d' = true) : sRaiseI C [f, g] (aCons (eVar i) (aCons (eVar j) aNil)) ss = .exc ⟨C, some [(g, d'), (f, d)]⟩ ss := by
  unfold sRaiseI
  rw [aC_ok (var_ok h) (aOne (var_ok h'))]
  dsimp only
  rw [if_pos ⟨rfl, (show 2 ≤ 900 by decide), by simp [hd, hd']⟩]
  rfl
theorem fm_int {i : Int} (h1 : -2000000000 < i) (h2 : i < 2000000000) : fmD (.int i) = true := by
  have := lg (i := i) (by omega) (by omega)
  exact (decide_eq_true (by omega))
theorem fm_str {t : Str} (h : t.length ≤ 1000) : fmD (.str t) = true := decide_eq_true (by omega)

/-! ### the kinds -/
theorem exv_at {a : Ha} {e : Exo} : isHot a e (exv a e) = true := isHot_exv
section
variable {K : PySem.W.Frag} {a : Ha} {e : Exo}
theorem isx_ok {w : Value} {b : Bool} {i : Nat} {ss : En} (hC : L2.ExcC K e.C) (h : ss[i]? = some (.v 0 (exv a e))) (hk : PySem.W.kitAny K (.ref e.C) [w] = some b) : eIsx K a e [w] (eVar i) ss = .ok (0, .bl b) := by
  unfold eIsx
  rw [if_pos hC, var_ok h]
  dsimp only
  rw [if_pos ⟨rfl, isHot_exv⟩, hk]
theorem xf_ok {n : Str} {fs : List (Str × D)} {d : D} {i : Nat} {ss : En} (hC : L2.ExcC K e.C) (hno : PySem.W.findIn K (.ref e.C) n = some none) (hfs : e.fs = some fs) (h : ss[i]? = some (.v 0 (exv a e))) (hl : fs.lookup n = some d) : eXf K a e n (eVar i) ss = .ok (0, d) := by
  unfold eXf
  rw [if_pos ⟨hC, hno⟩, var_ok h]
  unfold exv
  rw [hfs]
  simp [hl]
end
theorem lst_ok {g : EA} {ss : En} {ds : List D} (h : g ss = .ok ds) (hl : ds.length ≤ 10000000) : eLst g ss = .ok (1, .lst ds) := by unfold eLst; rw [h]; exact if_pos hl
theorem catl_ok {f g : EB} {ss : En} {n m : Nat} {xs ys : List D} (h : f ss = .ok (n, .lst xs)) (hg : g ss = .ok (m, .lst ys)) (hn : n ≤ 1) (hm : m ≤ 1) (hl : xs.length + ys.length ≤ 10000000) : eCat f g ss = .ok (1, .lst (xs ++ ys)) := by
  unfold eCat
  simp only [h, hg]
  rw [if_pos ⟨hn, hm, hl⟩]
theorem or_ok0 {f g : EB} {ss : En} {n : Nat} {a b : Bool} (h1 : f ss = .ok (n, .bl a)) (h2 : g ss = .ok (0, .bl b)) : eOr f g ss = .ok (0, .bl (a || b)) := by
  unfold eOr
  rw [h1]
  cases a
  · simp only [h2, Bool.false_or]
  · rfl
theorem in_ok {f1 f2 : EB} {ss : En} {n m : Nat} {i : Int} {ns : List Int} (h1 : f1 ss = .ok (n, .int i)) (h2 : f2 ss = .ok (m, .lst (ns.map .int))) : eOp (gIn false) f1 f2 ss = .ok (0, .bl (decide (i ∈ ns))) :=
  op_ok h1 h2 (by unfold gIn; dsimp only; rw [intsOf_ints]; rfl)
theorem ifret {t : ET} {E : EB} {R : SM} {ss : En} {b : Bool} (h : t ss = .ok b) : sSeq (sIf t (sRet E) sNext) R ss = bif b then sRet E ss else R ss := by
  cases b with
  | false => exact seq_nx (if_f h)
  | true =>
    unfold sSeq
    rw [if_t h]
    unfold sRet
    cases E ss <;> rfl
theorem neL_same {bs : List Bool} : gNeL (.lst (bs.map .bl)) (.lst (bs.map .bl)) = some (.bl false) := by
  unfold gNeL
  dsimp only
  rw [blsOf_map]
  simp
section
variable {P : Program} {K : PySem.W.Frag} {mg : Str → Option Value}
/-! ### the same fields -/
theorem ixd_ok {f g : EB} {ss : En} {n m k : Nat} {xs : List D} {d : D} (h : f ss = .ok (n, .lst xs)) (hn : n ≤ 1) (hg : g ss = .ok (m, .int (k : Int))) (hx : xs[k]? = some d) : eIx f g ss = .ok (0, d) := by
  unfold eIx
  rw [h]
  dsimp only
  rw [hg]
  dsimp only
  have : ixD n (.lst xs) (.int (k : Int)) = some (n - 1, d) := by
    unfold ixD
    dsimp only
    rw [Mv.atI_nat hx]
    rfl
  rw [this, Nat.sub_eq_zero_of_le hn]
theorem isi_int {f : EB} {ss : En} {n : Nat} {i : Int} {T : String} (hT : T ∈ tyNames) (h : f ss = .ok (n, .int i)) : eUn (gIsi T) f ss = .ok (0, .bl (isKind "int" T)) := un_ok h (by unfold gIsi kindOf; dsimp only; rw [if_pos hT])
theorem isi_str {f : EB} {ss : En} {n : Nat} {x : Str} {T : String} (hT : T ∈ tyNames) (h : f ss = .ok (n, .str x)) : eUn (gIsi T) f ss = .ok (0, .bl (isKind "str" T)) := un_ok h (by unfold gIsi kindOf; dsimp only; rw [if_pos hT])
theorem v_is_int (T : Txt P K mg) (a : Ha) (e : Exo) (i : Int) : m_law_is_int T a e [.int i] = .ok (0, .bl true) := by
  unfold m_law_is_int c_law_is_int
  exact fn_rt rfl rfl (ret_ok (own0_ok (and_ok0 (isi_int (by decide +kernel) (var_ok rfl)) (not_ok (isi_int (by decide +kernel) (var_ok rfl))))))
/-- a field that is told rightly -/
def Told (d : D) : Prop := (∃ i : Int, d = .int i) ∨ ∃ x : Str, d = .str x ∧ PyData.strOk x = true
theorem ne_self {d : D} (h : pl d 60 = true) : gNe d d = some (.bl false) := by
  unfold gNe
  rw [gEq_pl h h]
  simp
theorem same_step (T : Txt P K mg) (a : Ha) (e : Exo) (told : List D) (k : Nat) (d : D) (hk : told[k]? = some d) (hd : Told d) : c_law_same_1 T a e [.v 0 (.lst told), .v 0 (.lst told), .v 0 (.int (k : Int))] = .nx [.v 0 (.lst told), .v 0 (.lst told), .v 0 (.int (k : Int))] := by
  have x0 : eIx (eVar 0) (eVar 2) [.v 0 (.lst told), .v 0 (.lst told), .v 0 (.int (k : Int))] = .ok (0, d) := ixd_ok (var_ok rfl) (by decide) (var_ok rfl) hk
  have x1 : eIx (eVar 1) (eVar 2) [.v 0 (.lst told), .v 0 (.lst told), .v 0 (.int (k : Int))] = .ok (0, d) := ixd_ok (var_ok rfl) (by decide) (var_ok rfl) hk
  unfold c_law_same_1
  rcases hd with ⟨i, rfl⟩ | ⟨x, rfl, hx⟩
  · have a1 := test_ok (isi_int (T := "str") (by decide +kernel) x1)
    have t1 := (tand_f (u := tyNot (eTest (eUn (gIsi "str") (eIx (eVar 0) (eVar 2))))) (a1.trans rfl))
    have a2 := tnot_ok (test_ok (fnF_ok (aOne x0) (v_is_int T a e i) rfl))
    have t2 := tand_ok (tnot_ok a1) a2
    have t3 := test_ok (op_ok x0 x1 (ne_self (d := .int i) (by rw [pl])))
    exact (seq_nx (if_f t1)).trans ((seq_nx (if_f (t2.trans rfl))).trans (if_f t3))
  · have a1 := test_ok (isi_str (T := "str") (by decide +kernel) x1)
    have a0 := test_ok (isi_str (T := "str") (by decide +kernel) x0)
    have t1 := tand_ok a1 (tnot_ok a0)
    have t2 := (tand_f (u := tyNot (eTest (eFnF (m_law_is_int T a e) (aCons (eIx (eVar 0) (eVar 2)) aNil)))) ((tnot_ok a1).trans rfl))
    have t3 := test_ok (op_ok x0 x1 (ne_self (d := .str x) (by rw [pl]; exact hx)))
    exact (seq_nx (if_f (t1.trans rfl))).trans ((seq_nx (if_f t2)).trans (if_f t3))
theorem len_lst {ss : En} {i n : Nat} {xs : List D} (h : ss[i]? = some (.v n (.lst xs))) : eCall gLen (aCons (eVar i) aNil) ss = .ok (0, .int (xs.length : Int)) := call_ok (aOne (var_ok h)) rfl
theorem v_same (T : Txt P K mg) (a : Ha) (e : Exo) (told : List D) (hl : told.length ≤ 100) (h : ∀ d ∈ told, Told d) : m_law_same T a e [.lst told, .lst told] = .ok (0, .bl true) := by
  have t := test_ok (op_ok (len_lst (ss := [.v 0 (.lst told), .v 0 (.lst told), .un]) (i := 0) rfl) (len_lst (i := 1) rfl) (show gNe (.int (told.length : Int)) (.int (told.length : Int)) = some (.bl false) by rw [gNe_int, decide_eq_true rfl]; rfl))
  obtain ⟨s', h1, o, h2⟩ := loop_nx (step := stepF (tgName 2) (c_law_same_1 T a e)) (fun k st => ∃ o : Sl, st = [.v 0 (.lst told), .v 0 (.lst told), o]) (rngD 0 told.length) [.v 0 (.lst told), .v 0 (.lst told), .un] ⟨_, rfl⟩ (by
    rintro k d st hd ⟨o, rfl⟩
    obtain ⟨hk, rfl⟩ := rngD_get hd
    have hx : told[k]? = some told[k] := List.getElem?_eq_getElem hk
    have se : ([.v 0 (.lst told), .v 0 (.lst told), o] : En).set 2 (.v 0 (.int (0 + (k : Int)))) = [.v 0 (.lst told), .v 0 (.lst told), .v 0 (.int (k : Int))] := by
      rw [Int.zero_add]; rfl
    exact ⟨_, .inl ((step_eq se).trans (same_step T a e told k _ hx (h _ (List.getElem_mem hk)))), _, rfl⟩)
  subst h2
  unfold m_law_same c_law_same
  exact fn_rt rfl rfl ((seq_nx (if_f t)).trans ((seq_nx ((for_rng (aOne (len_lst rfl)) (by omega)).trans h1)).trans (ret_ok (own0_ok c_ok))))
/-! ### which fields -/
theorem fields_eq (T : Txt P K mg) (a : Ha) (e : Exo) (k : Int) (x : D) : c_law_fields T a e [.v 0 (.int k), .v 0 x] =
    bif decide (k ∈ [0, 1, 2, 14, 18, 21]) then (sRet (eLst (a0Cons (eXf K a e "node" (eVar 1)) aNil))) [.v 0 (.int k), .v 0 x] else
    bif (decide (3 < k) && decide (k < 11)) || decide (k = 35) then (sRet (eLst (a0Cons (eXf K a e "line" (eVar 1)) aNil))) [.v 0 (.int k), .v 0 x] else
    bif decide (k = 11) then (sRet (eLst (a0Cons (eXf K a e "statement" (eVar 1)) aNil))) [.v 0 (.int k), .v 0 x] else
    bif decide (k = 13) then (sRet (eLst (a0Cons (eXf K a e "lane" (eVar 1)) (a0Cons (eXf K a e "place" (eVar 1)) aNil)))) [.v 0 (.int k), .v 0 x] else
    bif decide (k = 16) then (sRet (eLst (a0Cons (eXf K a e "place" (eVar 1)) aNil))) [.v 0 (.int k), .v 0 x] else
    bif decide (k = 31) then (sRet (eLst (a0Cons (eXf K a e "lane" (eVar 1)) aNil))) [.v 0 (.int k), .v 0 x] else
    bif decide (k ∈ [27, 28, 29, 30, 32]) then (sRet (eLst (a0Cons (eXf K a e "name" (eVar 1)) aNil))) [.v 0 (.int k), .v 0 x] else (sRet (eLst aNil)) [.v 0 (.int k), .v 0 x] := by
  unfold c_law_fields
  have v : ∀ {c : Int}, eTest (eOp gEq (eVar 0) (eC (.int c))) [.v 0 (.int k), .v 0 x] = .ok (decide (k = c)) := test_ok (eq_ok (var_ok rfl) c_ok)
  rw [ifret (test_ok (in_ok (ns := [0, 1, 2, 14, 18, 21]) (var_ok rfl) (frz_ok (lst_ok rfl (by decide))))), ifret (tor_ok (tand_ok (test_ok (gt_ok (var_ok rfl) c_ok)) (test_ok (lt_ok (var_ok rfl) c_ok))) v), ifret v, ifret v, ifret v, ifret v, ifret (test_ok (in_ok (ns := [27, 28, 29, 30, 32]) (var_ok rfl) (frz_ok (lst_ok rfl (by decide)))))]
theorem due_eq (T : Txt P K mg) (a : Ha) (e : Exo) (k : Int) (x y z : D) : c_law_due T a e [.v 0 (.int k), .v 0 x, .v 0 y, .v 0 z] =
    bif decide (k = 13) then (sRet (eLst (a0Cons (eVar 1) (a0Cons (eVar 2) aNil)))) [.v 0 (.int k), .v 0 x, .v 0 y, .v 0 z] else
    bif decide (k ∈ [27, 28, 29, 30, 32]) then (sRet (eLst (a0Cons (eVar 3) aNil))) [.v 0 (.int k), .v 0 x, .v 0 y, .v 0 z] else
    bif decide (k ∈ [3, 12, 15, 17, 19, 20, 22, 23, 24, 25, 26, 33, 34]) then (sRet (eLst aNil)) [.v 0 (.int k), .v 0 x, .v 0 y, .v 0 z] else (sRet (eLst (a0Cons (eVar 1) aNil))) [.v 0 (.int k), .v 0 x, .v 0 y, .v 0 z] := by
  unfold c_law_due
  rw [ifret (test_ok (eq_ok (var_ok rfl) c_ok)), ifret (test_ok (in_ok (ns := [27, 28, 29, 30, 32]) (var_ok rfl) (frz_ok (lst_ok rfl (by decide))))), ifret (test_ok (in_ok (ns := [3, 12, 15, 17, 19, 20, 22, 23, 24, 25, 26, 33, 34]) (var_ok rfl) (frz_ok (lst_ok rfl (by decide)))))]
/-! ### the suite -/
def fk (k : Int) (j : Nat) : Bool := decide (0 + (j : Int) = k) || ((decide (0 + (j : Int) = 4) && (decide (4 < k) && decide (k < 11))) || (decide (0 + (j : Int) = 26) && decide (26 < k)))
theorem row_lc (k : Int) (x y z w : D) : eLc [6] (iRg1 (aCons (eC (.int 36)) aNil)) (tgName 6) tcYes (eOr (eOp gEq (eVar 6) (eVar 0)) (eOr (eAnd (eOp gEq (eVar 6) (eC (.int 4))) (eAnd (eOp gGt (eVar 0) (eC (.int 4))) (eOp gLt (eVar 0) (eC (.int 11))))) (eAnd (eOp gEq (eVar 6) (eC (.int 26))) (eOp gGt (eVar 0) (eC (.int 26)))))) [.v 0 (.int k), .v 0 x, .v 0 y, .v 0 z, .v 0 w, .un, .un] = .ok (1, .lst (((List.range 36).map (fk k)).map .bl)) := by
  have r1 : iRg1 (aCons (eC (.int 36)) aNil) [.v 0 (.int k), .v 0 x, .v 0 y, .v 0 z, .v 0 w, .un, .un] = .ok ((List.range 36).map fun i : Nat => D.int (0 + (i : Int))) := iRg1_ok (aOne c_ok) (by decide)
  have q := lc_ok (vs := [6]) (tgt := tgName 6) (fe := eOr (eOp gEq (eVar 6) (eVar 0)) (eOr (eAnd (eOp gEq (eVar 6) (eC (.int 4))) (eAnd (eOp gGt (eVar 0) (eC (.int 4))) (eOp gLt (eVar 0) (eC (.int 11))))) (eAnd (eOp gEq (eVar 6) (eC (.int 26))) (eOp gGt (eVar 0) (eC (.int 26)))))) (g := fun i => .bl (fk k i)) (List.range 36) r1 (by decide) fun i hi => by
    refine ⟨[.v 0 (.int k), .v 0 x, .v 0 y, .v 0 z, .v 0 w, .un, .v 0 (.int (0 + (i : Int)))], rfl, ?_⟩
    exact or_ok0 (eq_ok (var_ok rfl) (var_ok rfl)) (or_ok0 (and_ok0 (eq_ok (var_ok rfl) c_ok) (and_ok0 (gt_ok (var_ok rfl) c_ok) (lt_ok (var_ok rfl) c_ok))) (and_ok0 (eq_ok (var_ok rfl) c_ok) (gt_ok (var_ok rfl) c_ok)))
  rw [List.map_map]
  exact q
theorem suite_ok (T : Txt P K mg) (a : Ha) (e : Exo) (k : Int) (one two : Int) (txt : Str) (told : List D) (hC : L2.ExcC K e.C) (hk : m_law_kinds T a e [exv a e] = .ok (1, .lst (((List.range 36).map (fk k)).map .bl))) (hv : PySem.W.kitAny K (.ref e.C) [.type "ValueError"] = some true)
    (hf : m_law_fields T a e [.int k, exv a e] = .ok (1, .lst told)) (hd : m_law_due T a e [.int k, .int one, .int two, .str txt] = .ok (1, .lst told)) (hl : told.length ≤ 100) (ht : ∀ d ∈ told, Told d) :
    unS 4 ((sSeq (sAsg 5 (eLc [6] (iRg1 (aCons (eC (.int 36)) aNil)) (tgName 6) tcYes (eOr (eOp gEq (eVar 6) (eVar 0)) (eOr (eAnd (eOp gEq (eVar 6) (eC (.int 4))) (eAnd (eOp gGt (eVar 0) (eC (.int 4))) (eOp gLt (eVar 0) (eC (.int 11))))) (eAnd (eOp gEq (eVar 6) (eC (.int 26))) (eOp gGt (eVar 0) (eC (.int 26))))))))
  (sSeq (sIf (tyOr (eTest (eOp gNeL (frzE (eFn (m_law_kinds T a e) (a0Cons (eVar 4) aNil))) (eVar 5))) (tyNot (eTest (eIsx K a e [.type "ValueError"] (eVar 4)))))
  (sRet (own0 (eC (.bl false))))
  sNext)
  (sRet (own0 (eFnF (m_law_same T a e) (aCons (frzE (eFn (m_law_fields T a e) (a0Cons (eVar 0) (a0Cons (eVar 4) aNil)))) (aCons (frzE (eFn (m_law_due T a e) (a0Cons (eVar 0) (a0Cons (eVar 1) (a0Cons (eVar 2) (a0Cons (eVar 3) aNil)))))) aNil)))))))
      [.v 0 (.int k), .v 0 (.int one), .v 0 (.int two), .v 0 (.str txt), .v 0 (exv a e), .un, .un]) = .rt 0 (.bl true) := by
  have b1 : (sAsg 5 (eLc [6] (iRg1 (aCons (eC (.int 36)) aNil)) (tgName 6) tcYes (eOr (eOp gEq (eVar 6) (eVar 0)) (eOr (eAnd (eOp gEq (eVar 6) (eC (.int 4))) (eAnd (eOp gGt (eVar 0) (eC (.int 4))) (eOp gLt (eVar 0) (eC (.int 11))))) (eAnd (eOp gEq (eVar 6) (eC (.int 26))) (eOp gGt (eVar 0) (eC (.int 26)))))))) [.v 0 (.int k), .v 0 (.int one), .v 0 (.int two), .v 0 (.str txt), .v 0 (exv a e), .un, .un] =
      .nx [.v 0 (.int k), .v 0 (.int one), .v 0 (.int two), .v 0 (.str txt), .v 0 (exv a e), .v 1 (.lst (((List.range 36).map (fk k)).map .bl)), .un] := asg_ok (row_lc k _ _ _ _)
  generalize (List.range 36).map (fk k) = row at *
  have t1 := test_ok (op_ok (ss := [.v 0 (.int k), .v 0 (.int one), .v 0 (.int two), .v 0 (.str txt), .v 0 (exv a e), .v 1 (.lst (row.map .bl)), .un]) (frz_ok ((fn_ok' (g := a0Cons (eVar 4) aNil) (a0_ok (g := aNil) (var_ok (i := 4) rfl) rfl)).trans hk)) (var_ok (i := 5) rfl) neL_same)
  have t2 := tnot_ok (test_ok (isx_ok (ss := [.v 0 (.int k), .v 0 (.int one), .v 0 (.int two), .v 0 (.str txt), .v 0 (exv a e), .v 1 (.lst (row.map .bl)), .un]) (i := 4) hC rfl hv))
  have r : (sRet (own0 (eFnF (m_law_same T a e) (aCons (frzE (eFn (m_law_fields T a e) (a0Cons (eVar 0) (a0Cons (eVar 4) aNil)))) (aCons (frzE (eFn (m_law_due T a e) (a0Cons (eVar 0) (a0Cons (eVar 1) (a0Cons (eVar 2) (a0Cons (eVar 3) aNil)))))) aNil))))) [.v 0 (.int k), .v 0 (.int one), .v 0 (.int two), .v 0 (.str txt), .v 0 (exv a e), .v 1 (.lst (row.map .bl)), .un] = .rt 0 (.bl true) :=
    ret_ok (own0_ok (fnF_ok (aC_ok (frz_ok ((fn_ok' (a0_ok (var_ok rfl) (a0_ok (var_ok rfl) rfl))).trans hf)) (aC_ok (frz_ok ((fn_ok' (a0_ok (var_ok rfl) (a0_ok (var_ok rfl) (a0_ok (var_ok rfl) (a0_ok (var_ok rfl) rfl))))).trans hd)) rfl)) (v_same T a e told hl ht) rfl))
  have all := (seq_nx (G := (sSeq (sIf (tyOr (eTest (eOp gNeL (frzE (eFn (m_law_kinds T a e) (a0Cons (eVar 4) aNil))) (eVar 5))) (tyNot (eTest (eIsx K a e [.type "ValueError"] (eVar 4))))) (sRet (own0 (eC (.bl false)))) sNext) (sRet (own0 (eFnF (m_law_same T a e) (aCons (frzE (eFn (m_law_fields T a e) (a0Cons (eVar 0) (a0Cons (eVar 4) aNil)))) (aCons (frzE (eFn (m_law_due T a e) (a0Cons (eVar 0) (a0Cons (eVar 1) (a0Cons (eVar 2) (a0Cons (eVar 3) aNil)))))) aNil))))))) b1).trans ((seq_nx (F := sIf (tyOr (eTest (eOp gNeL (frzE (eFn (m_law_kinds T a e) (a0Cons (eVar 4) aNil))) (eVar 5))) (tyNot (eTest (eIsx K a e [.type "ValueError"] (eVar 4))))) (sRet (own0 (eC (.bl false)))) sNext) (if_f ((tor_f t1).trans t2))).trans r)
  exact (congrArg (unS 4) all).trans rfl
end
end K70

namespace K70
open PySem L2 Mv
section
variable {P : Program} {K : PySem.W.Frag} {mg : Str → Option Value}
theorem first_sel (T : Txt P K mg) : c_law_first T = sel [(0, sRaiseI T.a_BadNode ["node"] (aCons (eVar 1) aNil)), (1, sRaiseI T.a_Unreachable ["node"] (aCons (eVar 1) aNil)), (2, sRaiseI T.a_NoEnd ["node"] (aCons (eVar 1) aNil)), (3, sRaise ⟨T.a_BadRing, none⟩), (4, sRaiseI T.a_TextError ["line"] (aCons (eVar 1) aNil)), (5, sRaiseI T.a_BadLine ["line"] (aCons (eVar 1) aNil)), (6, sRaiseI T.a_Misplaced ["line"] (aCons (eVar 1) aNil)), (7, sRaiseI T.a_TooDeep ["line"] (aCons (eVar 1) aNil)), (8, sRaiseI T.a_DuplicateMark ["line"] (aCons (eVar 1) aNil)), (9, sRaiseI T.a_Unclosed ["line"] (aCons (eVar 1) aNil)), (10, sRaiseI T.a_NoMark ["line"] (aCons (eVar 1) aNil)), (11, sRaiseI T.a_BareLoop ["statement"] (aCons (eVar 1) aNil)), (12, sRaise ⟨T.a_BadStart, none⟩), (13, sRaiseI T.a_BadRun ["lane", "place"] (aCons (eVar 1) (aCons (eVar 2) aNil))), (14, sRaiseI T.a_NotStanding ["node"] (aCons (eVar 1) aNil)), (15, sRaise ⟨T.a_Incomplete, none⟩), (16, sRaiseI T.a_BadStay ["place"] (aCons (eVar 1) aNil)), (17, sRaise ⟨T.a_TooLarge, none⟩), (18, sRaiseI T.a_WildProgram ["node"] (aCons (eVar 1) aNil))] (sRet (own0 (eC .non))) := rfl
theorem second_sel (T : Txt P K mg) : c_law_second T = sel [(19, sRaise ⟨T.a_NoWild, none⟩), (20, sRaise ⟨T.a_BadWord, none⟩), (21, sRaiseI T.a_BadChange ["node"] (aCons (eVar 1) aNil)), (22, sRaise ⟨T.a_BadDoors, none⟩), (23, sRaise ⟨T.a_BadOrder, none⟩), (24, sRaise ⟨T.a_MixedGraphs, none⟩), (25, sRaise ⟨T.a_NotOver, none⟩), (26, sRaise ⟨T.a_DeskError, none⟩), (27, sRaiseI T.a_BadName ["name"] (aCons (eVar 2) aNil)), (28, sRaiseI T.a_NameTaken ["name"] (aCons (eVar 2) aNil)), (29, sRaiseI T.a_NoProgram ["name"] (aCons (eVar 2) aNil)), (30, sRaiseI T.a_NoTeam ["name"] (aCons (eVar 2) aNil)), (31, sRaiseI T.a_Unending ["lane"] (aCons (eVar 1) aNil)), (32, sRaiseI T.a_BadPolicy ["name"] (aCons (eVar 2) aNil)), (33, sRaise ⟨T.a_NothingToUndo, none⟩), (34, sRaise ⟨T.a_NothingToRedo, none⟩), (35, sRaiseI T.a_BadJournal ["line"] (aCons (eVar 1) aNil))] (sRet (own0 (eC .non))) := rfl
theorem v_kinds (T : Txt P K mg) (a : Ha) (e : Exo) (hC : L2.ExcC K e.C) (b0 b1 b2 b3 b4 b5 b6 b7 b8 b9 b10 b11 b12 b13 b14 b15 b16 b17 b18 b19 b20 b21 b22 b23 b24 b25 b26 b27 b28 b29 b30 b31 b32 b33 b34 b35 b36 : Bool) (h : ∀ (j : Nat) (w : Value) (b : Bool), ([.ref T.a_BadNode, .ref T.a_Unreachable, .ref T.a_NoEnd, .ref T.a_BadRing, .ref T.a_TextError, .ref T.a_BadLine, .ref T.a_Misplaced, .ref T.a_TooDeep, .ref T.a_DuplicateMark, .ref T.a_Unclosed, .ref T.a_NoMark, .ref T.a_BareLoop, .ref T.a_BadStart, .ref T.a_BadRun, .ref T.a_NotStanding, .ref T.a_Incomplete, .ref T.a_BadStay, .ref T.a_TooLarge, .ref T.a_WildProgram, .ref T.a_NoWild, .ref T.a_BadWord, .ref T.a_BadChange, .ref T.a_BadDoors, .ref T.a_BadOrder, .ref T.a_MixedGraphs, .ref T.a_NotOver, .ref T.a_DeskError, .ref T.a_BadName, .ref T.a_NameTaken, .ref T.a_NoProgram, .ref T.a_NoTeam, .ref T.a_Unending, .ref T.a_BadPolicy, .ref T.a_NothingToUndo, .ref T.a_NothingToRedo, .ref T.a_BadJournal, .type "ValueError"] : List Value)[j]? = some w → [b0, b1, b2, b3, b4, b5, b6, b7, b8, b9, b10, b11, b12, b13, b14, b15, b16, b17, b18, b19, b20, b21, b22, b23, b24, b25, b26, b27, b28, b29, b30, b31, b32, b33, b34, b35, b36][j]? = some b → PySem.W.kitAny K (.ref e.C) [w] = some b) :
    m_law_kinds T a e [exv a e] = .ok (1, .lst ([b0, b1, b2, b3, b4, b5, b6, b7, b8, b9, b10, b11, b12, b13, b14, b15, b16, b17, b18, b19, b20, b21, b22, b23, b24, b25, b26, b27, b28, b29, b30, b31, b32, b33, b34, b35].map .bl)) := by
  have s0 : (sAsg 1 (eLst (a0Cons (eIsx K a e [.ref T.a_BadNode] (eVar 0)) (a0Cons (eIsx K a e [.ref T.a_Unreachable] (eVar 0)) (a0Cons (eIsx K a e [.ref T.a_NoEnd] (eVar 0)) (a0Cons (eIsx K a e [.ref T.a_BadRing] (eVar 0)) aNil)))))) [.v 0 (exv a e), .un] = .nx [.v 0 (exv a e), .v 1 (.lst [.bl b0, .bl b1, .bl b2, .bl b3])] := asg_ok (lst_ok (ds := [.bl b0, .bl b1, .bl b2, .bl b3]) (a0_ok (isx_ok (w := .ref T.a_BadNode) (b := b0) hC rfl (h 0 _ _ rfl rfl)) (a0_ok (isx_ok (w := .ref T.a_Unreachable) (b := b1) hC rfl (h 1 _ _ rfl rfl)) (a0_ok (isx_ok (w := .ref T.a_NoEnd) (b := b2) hC rfl (h 2 _ _ rfl rfl)) (a0_ok (g := aNil) (isx_ok (w := .ref T.a_BadRing) (b := b3) hC rfl (h 3 _ _ rfl rfl)) rfl)))) (show 4 ≤ 10000000 by decide))
  have s1 : (sAsg 1 (eCat (eVar 1) (frzE (eLst (a0Cons (eIsx K a e [.ref T.a_TextError] (eVar 0)) (a0Cons (eIsx K a e [.ref T.a_BadLine] (eVar 0)) (a0Cons (eIsx K a e [.ref T.a_Misplaced] (eVar 0)) aNil))))))) [.v 0 (exv a e), .v 1 (.lst [.bl b0, .bl b1, .bl b2, .bl b3])] = .nx [.v 0 (exv a e), .v 1 (.lst [.bl b0, .bl b1, .bl b2, .bl b3, .bl b4, .bl b5, .bl b6])] := asg_ok (catl_ok (n := 1) (m := 0) (xs := [.bl b0, .bl b1, .bl b2, .bl b3]) (ys := [.bl b4, .bl b5, .bl b6]) (var_ok rfl) (frz_ok (lst_ok (ds := [.bl b4, .bl b5, .bl b6]) (a0_ok (isx_ok (w := .ref T.a_TextError) (b := b4) hC rfl (h 4 _ _ rfl rfl)) (a0_ok (isx_ok (w := .ref T.a_BadLine) (b := b5) hC rfl (h 5 _ _ rfl rfl)) (a0_ok (g := aNil) (isx_ok (w := .ref T.a_Misplaced) (b := b6) hC rfl (h 6 _ _ rfl rfl)) rfl))) (show 3 ≤ 10000000 by decide))) (by decide) (by decide) (show 7 ≤ 10000000 by decide))
  have s2 : (sAsg 1 (eCat (eVar 1) (frzE (eLst (a0Cons (eIsx K a e [.ref T.a_TooDeep] (eVar 0)) (a0Cons (eIsx K a e [.ref T.a_DuplicateMark] (eVar 0)) (a0Cons (eIsx K a e [.ref T.a_Unclosed] (eVar 0)) aNil))))))) [.v 0 (exv a e), .v 1 (.lst [.bl b0, .bl b1, .bl b2, .bl b3, .bl b4, .bl b5, .bl b6])] = .nx [.v 0 (exv a e), .v 1 (.lst [.bl b0, .bl b1, .bl b2, .bl b3, .bl b4, .bl b5, .bl b6, .bl b7, .bl b8, .bl b9])] := asg_ok (catl_ok (n := 1) (m := 0) (xs := [.bl b0, .bl b1, .bl b2, .bl b3, .bl b4, .bl b5, .bl b6]) (ys := [.bl b7, .bl b8, .bl b9]) (var_ok rfl) (frz_ok (lst_ok (ds := [.bl b7, .bl b8, .bl b9]) (a0_ok (isx_ok (w := .ref T.a_TooDeep) (b := b7) hC rfl (h 7 _ _ rfl rfl)) (a0_ok (isx_ok (w := .ref T.a_DuplicateMark) (b := b8) hC rfl (h 8 _ _ rfl rfl)) (a0_ok (g := aNil) (isx_ok (w := .ref T.a_Unclosed) (b := b9) hC rfl (h 9 _ _ rfl rfl)) rfl))) (show 3 ≤ 10000000 by decide))) (by decide) (by decide) (show 10 ≤ 10000000 by decide))
  have s3 : (sAsg 1 (eCat (eVar 1) (frzE (eLst (a0Cons (eIsx K a e [.ref T.a_NoMark] (eVar 0)) (a0Cons (eIsx K a e [.ref T.a_BareLoop] (eVar 0)) (a0Cons (eIsx K a e [.ref T.a_BadStart] (eVar 0)) (a0Cons (eIsx K a e [.ref T.a_BadRun] (eVar 0)) aNil)))))))) [.v 0 (exv a e), .v 1 (.lst [.bl b0, .bl b1, .bl b2, .bl b3, .bl b4, .bl b5, .bl b6, .bl b7, .bl b8, .bl b9])] = .nx [.v 0 (exv a e), .v 1 (.lst [.bl b0, .bl b1, .bl b2, .bl b3, .bl b4, .bl b5, .bl b6, .bl b7, .bl b8, .bl b9, .bl b10, .bl b11, .bl b12, .bl b13])] := asg_ok (catl_ok (n := 1) (m := 0) (xs := [.bl b0, .bl b1, .bl b2, .bl b3, .bl b4, .bl b5, .bl b6, .bl b7, .bl b8, .bl b9]) (ys := [.bl b10, .bl b11, .bl b12, .bl b13]) (var_ok rfl) (frz_ok (lst_ok (ds := [.bl b10, .bl b11, .bl b12, .bl b13]) (a0_ok (isx_ok (w := .ref T.a_NoMark) (b := b10) hC rfl (h 10 _ _ rfl rfl)) (a0_ok (isx_ok (w := .ref T.a_BareLoop) (b := b11) hC rfl (h 11 _ _ rfl rfl)) (a0_ok (isx_ok (w := .ref T.a_BadStart) (b := b12) hC rfl (h 12 _ _ rfl rfl)) (a0_ok (g := aNil) (isx_ok (w := .ref T.a_BadRun) (b := b13) hC rfl (h 13 _ _ rfl rfl)) rfl)))) (show 4 ≤ 10000000 by decide))) (by decide) (by decide) (show 14 ≤ 10000000 by decide))
  have s4 : (sAsg 1 (eCat (eVar 1) (frzE (eLst (a0Cons (eIsx K a e [.ref T.a_NotStanding] (eVar 0)) (a0Cons (eIsx K a e [.ref T.a_Incomplete] (eVar 0)) (a0Cons (eIsx K a e [.ref T.a_BadStay] (eVar 0)) aNil))))))) [.v 0 (exv a e), .v 1 (.lst [.bl b0, .bl b1, .bl b2, .bl b3, .bl b4, .bl b5, .bl b6, .bl b7, .bl b8, .bl b9, .bl b10, .bl b11, .bl b12, .bl b13])] = .nx [.v 0 (exv a e), .v 1 (.lst [.bl b0, .bl b1, .bl b2, .bl b3, .bl b4, .bl b5, .bl b6, .bl b7, .bl b8, .bl b9, .bl b10, .bl b11, .bl b12, .bl b13, .bl b14, .bl b15, .bl b16])] := asg_ok (catl_ok (n := 1) (m := 0) (xs := [.bl b0, .bl b1, .bl b2, .bl b3, .bl b4, .bl b5, .bl b6, .bl b7, .bl b8, .bl b9, .bl b10, .bl b11, .bl b12, .bl b13]) (ys := [.bl b14, .bl b15, .bl b16]) (var_ok rfl) (frz_ok (lst_ok (ds := [.bl b14, .bl b15, .bl b16]) (a0_ok (isx_ok (w := .ref T.a_NotStanding) (b := b14) hC rfl (h 14 _ _ rfl rfl)) (a0_ok (isx_ok (w := .ref T.a_Incomplete) (b := b15) hC rfl (h 15 _ _ rfl rfl)) (a0_ok (g := aNil) (isx_ok (w := .ref T.a_BadStay) (b := b16) hC rfl (h 16 _ _ rfl rfl)) rfl))) (show 3 ≤ 10000000 by decide))) (by decide) (by decide) (show 17 ≤ 10000000 by decide))
  have s5 : (sAsg 1 (eCat (eVar 1) (frzE (eLst (a0Cons (eIsx K a e [.ref T.a_TooLarge] (eVar 0)) (a0Cons (eIsx K a e [.ref T.a_WildProgram] (eVar 0)) (a0Cons (eIsx K a e [.ref T.a_NoWild] (eVar 0)) aNil))))))) [.v 0 (exv a e), .v 1 (.lst [.bl b0, .bl b1, .bl b2, .bl b3, .bl b4, .bl b5, .bl b6, .bl b7, .bl b8, .bl b9, .bl b10, .bl b11, .bl b12, .bl b13, .bl b14, .bl b15, .bl b16])] = .nx [.v 0 (exv a e), .v 1 (.lst [.bl b0, .bl b1, .bl b2, .bl b3, .bl b4, .bl b5, .bl b6, .bl b7, .bl b8, .bl b9, .bl b10, .bl b11, .bl b12, .bl b13, .bl b14, .bl b15, .bl b16, .bl b17, .bl b18, .bl b19])] := asg_ok (catl_ok (n := 1) (m := 0) (xs := [.bl b0, .bl b1, .bl b2, .bl b3, .bl b4, .bl b5, .bl b6, .bl b7, .bl b8, .bl b9, .bl b10, .bl b11, .bl b12, .bl b13, .bl b14, .bl b15, .bl b16]) (ys := [.bl b17, .bl b18, .bl b19]) (var_ok rfl) (frz_ok (lst_ok (ds := [.bl b17, .bl b18, .bl b19]) (a0_ok (isx_ok (w := .ref T.a_TooLarge) (b := b17) hC rfl (h 17 _ _ rfl rfl)) (a0_ok (isx_ok (w := .ref T.a_WildProgram) (b := b18) hC rfl (h 18 _ _ rfl rfl)) (a0_ok (g := aNil) (isx_ok (w := .ref T.a_NoWild) (b := b19) hC rfl (h 19 _ _ rfl rfl)) rfl))) (show 3 ≤ 10000000 by decide))) (by decide) (by decide) (show 20 ≤ 10000000 by decide))
  have s6 : (sAsg 1 (eCat (eVar 1) (frzE (eLst (a0Cons (eIsx K a e [.ref T.a_BadWord] (eVar 0)) (a0Cons (eIsx K a e [.ref T.a_BadChange] (eVar 0)) (a0Cons (eIsx K a e [.ref T.a_BadDoors] (eVar 0)) aNil))))))) [.v 0 (exv a e), .v 1 (.lst [.bl b0, .bl b1, .bl b2, .bl b3, .bl b4, .bl b5, .bl b6, .bl b7, .bl b8, .bl b9, .bl b10, .bl b11, .bl b12, .bl b13, .bl b14, .bl b15, .bl b16, .bl b17, .bl b18, .bl b19])] = .nx [.v 0 (exv a e), .v 1 (.lst [.bl b0, .bl b1, .bl b2, .bl b3, .bl b4, .bl b5, .bl b6, .bl b7, .bl b8, .bl b9, .bl b10, .bl b11, .bl b12, .bl b13, .bl b14, .bl b15, .bl b16, .bl b17, .bl b18, .bl b19, .bl b20, .bl b21, .bl b22])] := asg_ok (catl_ok (n := 1) (m := 0) (xs := [.bl b0, .bl b1, .bl b2, .bl b3, .bl b4, .bl b5, .bl b6, .bl b7, .bl b8, .bl b9, .bl b10, .bl b11, .bl b12, .bl b13, .bl b14, .bl b15, .bl b16, .bl b17, .bl b18, .bl b19]) (ys := [.bl b20, .bl b21, .bl b22]) (var_ok rfl) (frz_ok (lst_ok (ds := [.bl b20, .bl b21, .bl b22]) (a0_ok (isx_ok (w := .ref T.a_BadWord) (b := b20) hC rfl (h 20 _ _ rfl rfl)) (a0_ok (isx_ok (w := .ref T.a_BadChange) (b := b21) hC rfl (h 21 _ _ rfl rfl)) (a0_ok (g := aNil) (isx_ok (w := .ref T.a_BadDoors) (b := b22) hC rfl (h 22 _ _ rfl rfl)) rfl))) (show 3 ≤ 10000000 by decide))) (by decide) (by decide) (show 23 ≤ 10000000 by decide))
  have s7 : (sAsg 1 (eCat (eVar 1) (frzE (eLst (a0Cons (eIsx K a e [.ref T.a_BadOrder] (eVar 0)) (a0Cons (eIsx K a e [.ref T.a_MixedGraphs] (eVar 0)) (a0Cons (eIsx K a e [.ref T.a_NotOver] (eVar 0)) aNil))))))) [.v 0 (exv a e), .v 1 (.lst [.bl b0, .bl b1, .bl b2, .bl b3, .bl b4, .bl b5, .bl b6, .bl b7, .bl b8, .bl b9, .bl b10, .bl b11, .bl b12, .bl b13, .bl b14, .bl b15, .bl b16, .bl b17, .bl b18, .bl b19, .bl b20, .bl b21, .bl b22])] = .nx [.v 0 (exv a e), .v 1 (.lst [.bl b0, .bl b1, .bl b2, .bl b3, .bl b4, .bl b5, .bl b6, .bl b7, .bl b8, .bl b9, .bl b10, .bl b11, .bl b12, .bl b13, .bl b14, .bl b15, .bl b16, .bl b17, .bl b18, .bl b19, .bl b20, .bl b21, .bl b22, .bl b23, .bl b24, .bl b25])] := asg_ok (catl_ok (n := 1) (m := 0) (xs := [.bl b0, .bl b1, .bl b2, .bl b3, .bl b4, .bl b5, .bl b6, .bl b7, .bl b8, .bl b9, .bl b10, .bl b11, .bl b12, .bl b13, .bl b14, .bl b15, .bl b16, .bl b17, .bl b18, .bl b19, .bl b20, .bl b21, .bl b22]) (ys := [.bl b23, .bl b24, .bl b25]) (var_ok rfl) (frz_ok (lst_ok (ds := [.bl b23, .bl b24, .bl b25]) (a0_ok (isx_ok (w := .ref T.a_BadOrder) (b := b23) hC rfl (h 23 _ _ rfl rfl)) (a0_ok (isx_ok (w := .ref T.a_MixedGraphs) (b := b24) hC rfl (h 24 _ _ rfl rfl)) (a0_ok (g := aNil) (isx_ok (w := .ref T.a_NotOver) (b := b25) hC rfl (h 25 _ _ rfl rfl)) rfl))) (show 3 ≤ 10000000 by decide))) (by decide) (by decide) (show 26 ≤ 10000000 by decide))
  have s8 : (sAsg 1 (eCat (eVar 1) (frzE (eLst (a0Cons (eIsx K a e [.ref T.a_DeskError] (eVar 0)) (a0Cons (eIsx K a e [.ref T.a_BadName] (eVar 0)) (a0Cons (eIsx K a e [.ref T.a_NameTaken] (eVar 0)) aNil))))))) [.v 0 (exv a e), .v 1 (.lst [.bl b0, .bl b1, .bl b2, .bl b3, .bl b4, .bl b5, .bl b6, .bl b7, .bl b8, .bl b9, .bl b10, .bl b11, .bl b12, .bl b13, .bl b14, .bl b15, .bl b16, .bl b17, .bl b18, .bl b19, .bl b20, .bl b21, .bl b22, .bl b23, .bl b24, .bl b25])] = .nx [.v 0 (exv a e), .v 1 (.lst [.bl b0, .bl b1, .bl b2, .bl b3, .bl b4, .bl b5, .bl b6, .bl b7, .bl b8, .bl b9, .bl b10, .bl b11, .bl b12, .bl b13, .bl b14, .bl b15, .bl b16, .bl b17, .bl b18, .bl b19, .bl b20, .bl b21, .bl b22, .bl b23, .bl b24, .bl b25, .bl b26, .bl b27, .bl b28])] := asg_ok (catl_ok (n := 1) (m := 0) (xs := [.bl b0, .bl b1, .bl b2, .bl b3, .bl b4, .bl b5, .bl b6, .bl b7, .bl b8, .bl b9, .bl b10, .bl b11, .bl b12, .bl b13, .bl b14, .bl b15, .bl b16, .bl b17, .bl b18, .bl b19, .bl b20, .bl b21, .bl b22, .bl b23, .bl b24, .bl b25]) (ys := [.bl b26, .bl b27, .bl b28]) (var_ok rfl) (frz_ok (lst_ok (ds := [.bl b26, .bl b27, .bl b28]) (a0_ok (isx_ok (w := .ref T.a_DeskError) (b := b26) hC rfl (h 26 _ _ rfl rfl)) (a0_ok (isx_ok (w := .ref T.a_BadName) (b := b27) hC rfl (h 27 _ _ rfl rfl)) (a0_ok (g := aNil) (isx_ok (w := .ref T.a_NameTaken) (b := b28) hC rfl (h 28 _ _ rfl rfl)) rfl))) (show 3 ≤ 10000000 by decide))) (by decide) (by decide) (show 29 ≤ 10000000 by decide))
  have s9 : (sAsg 1 (eCat (eVar 1) (frzE (eLst (a0Cons (eIsx K a e [.ref T.a_NoProgram] (eVar 0)) (a0Cons (eIsx K a e [.ref T.a_NoTeam] (eVar 0)) (a0Cons (eIsx K a e [.ref T.a_Unending] (eVar 0)) aNil))))))) [.v 0 (exv a e), .v 1 (.lst [.bl b0, .bl b1, .bl b2, .bl b3, .bl b4, .bl b5, .bl b6, .bl b7, .bl b8, .bl b9, .bl b10, .bl b11, .bl b12, .bl b13, .bl b14, .bl b15, .bl b16, .bl b17, .bl b18, .bl b19, .bl b20, .bl b21, .bl b22, .bl b23, .bl b24, .bl b25, .bl b26, .bl b27, .bl b28])] = .nx [.v 0 (exv a e), .v 1 (.lst [.bl b0, .bl b1, .bl b2, .bl b3, .bl b4, .bl b5, .bl b6, .bl b7, .bl b8, .bl b9, .bl b10, .bl b11, .bl b12, .bl b13, .bl b14, .bl b15, .bl b16, .bl b17, .bl b18, .bl b19, .bl b20, .bl b21, .bl b22, .bl b23, .bl b24, .bl b25, .bl b26, .bl b27, .bl b28, .bl b29, .bl b30, .bl b31])] := asg_ok (catl_ok (n := 1) (m := 0) (xs := [.bl b0, .bl b1, .bl b2, .bl b3, .bl b4, .bl b5, .bl b6, .bl b7, .bl b8, .bl b9, .bl b10, .bl b11, .bl b12, .bl b13, .bl b14, .bl b15, .bl b16, .bl b17, .bl b18, .bl b19, .bl b20, .bl b21, .bl b22, .bl b23, .bl b24, .bl b25, .bl b26, .bl b27, .bl b28]) (ys := [.bl b29, .bl b30, .bl b31]) (var_ok rfl) (frz_ok (lst_ok (ds := [.bl b29, .bl b30, .bl b31]) (a0_ok (isx_ok (w := .ref T.a_NoProgram) (b := b29) hC rfl (h 29 _ _ rfl rfl)) (a0_ok (isx_ok (w := .ref T.a_NoTeam) (b := b30) hC rfl (h 30 _ _ rfl rfl)) (a0_ok (g := aNil) (isx_ok (w := .ref T.a_Unending) (b := b31) hC rfl (h 31 _ _ rfl rfl)) rfl))) (show 3 ≤ 10000000 by decide))) (by decide) (by decide) (show 32 ≤ 10000000 by decide))
  have s10 : (sAsg 1 (eCat (eVar 1) (frzE (eLst (a0Cons (eIsx K a e [.ref T.a_BadPolicy] (eVar 0)) (a0Cons (eIsx K a e [.ref T.a_NothingToUndo] (eVar 0)) (a0Cons (eIsx K a e [.ref T.a_NothingToRedo] (eVar 0)) aNil))))))) [.v 0 (exv a e), .v 1 (.lst [.bl b0, .bl b1, .bl b2, .bl b3, .bl b4, .bl b5, .bl b6, .bl b7, .bl b8, .bl b9, .bl b10, .bl b11, .bl b12, .bl b13, .bl b14, .bl b15, .bl b16, .bl b17, .bl b18, .bl b19, .bl b20, .bl b21, .bl b22, .bl b23, .bl b24, .bl b25, .bl b26, .bl b27, .bl b28, .bl b29, .bl b30, .bl b31])] = .nx [.v 0 (exv a e), .v 1 (.lst [.bl b0, .bl b1, .bl b2, .bl b3, .bl b4, .bl b5, .bl b6, .bl b7, .bl b8, .bl b9, .bl b10, .bl b11, .bl b12, .bl b13, .bl b14, .bl b15, .bl b16, .bl b17, .bl b18, .bl b19, .bl b20, .bl b21, .bl b22, .bl b23, .bl b24, .bl b25, .bl b26, .bl b27, .bl b28, .bl b29, .bl b30, .bl b31, .bl b32, .bl b33, .bl b34])] := asg_ok (catl_ok (n := 1) (m := 0) (xs := [.bl b0, .bl b1, .bl b2, .bl b3, .bl b4, .bl b5, .bl b6, .bl b7, .bl b8, .bl b9, .bl b10, .bl b11, .bl b12, .bl b13, .bl b14, .bl b15, .bl b16, .bl b17, .bl b18, .bl b19, .bl b20, .bl b21, .bl b22, .bl b23, .bl b24, .bl b25, .bl b26, .bl b27, .bl b28, .bl b29, .bl b30, .bl b31]) (ys := [.bl b32, .bl b33, .bl b34]) (var_ok rfl) (frz_ok (lst_ok (ds := [.bl b32, .bl b33, .bl b34]) (a0_ok (isx_ok (w := .ref T.a_BadPolicy) (b := b32) hC rfl (h 32 _ _ rfl rfl)) (a0_ok (isx_ok (w := .ref T.a_NothingToUndo) (b := b33) hC rfl (h 33 _ _ rfl rfl)) (a0_ok (g := aNil) (isx_ok (w := .ref T.a_NothingToRedo) (b := b34) hC rfl (h 34 _ _ rfl rfl)) rfl))) (show 3 ≤ 10000000 by decide))) (by decide) (by decide) (show 35 ≤ 10000000 by decide))
  have s11 : (sAsg 1 (eCat (eVar 1) (frzE (eLst (a0Cons (eIsx K a e [.ref T.a_BadJournal] (eVar 0)) aNil))))) [.v 0 (exv a e), .v 1 (.lst [.bl b0, .bl b1, .bl b2, .bl b3, .bl b4, .bl b5, .bl b6, .bl b7, .bl b8, .bl b9, .bl b10, .bl b11, .bl b12, .bl b13, .bl b14, .bl b15, .bl b16, .bl b17, .bl b18, .bl b19, .bl b20, .bl b21, .bl b22, .bl b23, .bl b24, .bl b25, .bl b26, .bl b27, .bl b28, .bl b29, .bl b30, .bl b31, .bl b32, .bl b33, .bl b34])] = .nx [.v 0 (exv a e), .v 1 (.lst [.bl b0, .bl b1, .bl b2, .bl b3, .bl b4, .bl b5, .bl b6, .bl b7, .bl b8, .bl b9, .bl b10, .bl b11, .bl b12, .bl b13, .bl b14, .bl b15, .bl b16, .bl b17, .bl b18, .bl b19, .bl b20, .bl b21, .bl b22, .bl b23, .bl b24, .bl b25, .bl b26, .bl b27, .bl b28, .bl b29, .bl b30, .bl b31, .bl b32, .bl b33, .bl b34, .bl b35])] := asg_ok (catl_ok (n := 1) (m := 0) (xs := [.bl b0, .bl b1, .bl b2, .bl b3, .bl b4, .bl b5, .bl b6, .bl b7, .bl b8, .bl b9, .bl b10, .bl b11, .bl b12, .bl b13, .bl b14, .bl b15, .bl b16, .bl b17, .bl b18, .bl b19, .bl b20, .bl b21, .bl b22, .bl b23, .bl b24, .bl b25, .bl b26, .bl b27, .bl b28, .bl b29, .bl b30, .bl b31, .bl b32, .bl b33, .bl b34]) (ys := [.bl b35]) (var_ok rfl) (frz_ok (lst_ok (ds := [.bl b35]) (a0_ok (g := aNil) (isx_ok (w := .ref T.a_BadJournal) (b := b35) hC rfl (h 35 _ _ rfl rfl)) rfl) (show 1 ≤ 10000000 by decide))) (by decide) (by decide) (show 36 ≤ 10000000 by decide))
  unfold m_law_kinds c_law_kinds
  exact fn_rt rfl rfl ((seq_nx s0).trans ((seq_nx s1).trans ((seq_nx s2).trans ((seq_nx s3).trans ((seq_nx s4).trans ((seq_nx s5).trans ((seq_nx s6).trans ((seq_nx s7).trans ((seq_nx s8).trans ((seq_nx s9).trans ((seq_nx s10).trans ((seq_nx s11).trans (retV_ok rfl)))))))))))))
theorem told0 : ∀ d ∈ ([] : List D), Told d := fun d z => nomatch z
theorem told1 {x : D} (h : Told x) : ∀ d ∈ [x], Told d := fun d z => by rw [List.mem_singleton] at z; rw [z]; exact h
theorem told2 {x y : D} (h : Told x) (h' : Told y) : ∀ d ∈ [x, y], Told d := fun d z => by
  rcases List.mem_cons.mp z with e | e
  · rw [e]; exact h
  · exact told1 h' d e
theorem body_lt (T : Txt P K mg) {k one two : Int} {txt : Str} {e : Exo} {G : SM} (hk : k < 19) (h : m_law_first T [.int k, .int one, .int two] = .exc e) (hf : flatX e = true) :
    (sIf (eTest (eOp gLt (eVar 0) (eC (.int 19)))) (sDrop (eFnF (m_law_first T) (aCons (eVar 0) (aCons (eVar 1) (aCons (eVar 2) aNil))))) G) [.v 0 (.int k), .v 0 (.int one), .v 0 (.int two), .v 0 (.str txt), .un, .un, .un] = .exc e [.v 0 (.int k), .v 0 (.int one), .v 0 (.int two), .v 0 (.str txt), .un, .un, .un] := by
  have t : (eTest (eOp gLt (eVar 0) (eC (.int 19)))) [.v 0 (.int k), .v 0 (.int one), .v 0 (.int two), .v 0 (.str txt), .un, .un, .un] = .ok true := (test_ok (lt_ok (var_ok rfl) c_ok)).trans (by rw [decide_eq_true hk])
  rw [if_t t]
  unfold sDrop eFnF
  rw [aC_ok (f := eVar 0) (var_ok (n := 0) (d := .int k) rfl) (aC_ok (f := eVar 1) (var_ok (n := 0) (d := .int one) rfl) (aC_ok (f := eVar 2) (var_ok (n := 0) (d := .int two) rfl) (g := aNil) rfl))]
  dsimp only
  rw [h]
  dsimp only
  rw [if_pos hf]
theorem body_ge (T : Txt P K mg) {k one two : Int} {txt : Str} {e : Exo} {F : SM} (hk : ¬ k < 19) (h : m_law_second T [.int k, .int one, .str txt] = .exc e) (hf : flatX e = true) :
    (sIf (eTest (eOp gLt (eVar 0) (eC (.int 19)))) F (sDrop (eFnF (m_law_second T) (aCons (eVar 0) (aCons (eVar 1) (aCons (eVar 3) aNil)))))) [.v 0 (.int k), .v 0 (.int one), .v 0 (.int two), .v 0 (.str txt), .un, .un, .un] = .exc e [.v 0 (.int k), .v 0 (.int one), .v 0 (.int two), .v 0 (.str txt), .un, .un, .un] := by
  have t : (eTest (eOp gLt (eVar 0) (eC (.int 19)))) [.v 0 (.int k), .v 0 (.int one), .v 0 (.int two), .v 0 (.str txt), .un, .un, .un] = .ok false := (test_ok (lt_ok (var_ok rfl) c_ok)).trans (by rw [decide_eq_false hk])
  rw [if_f t]
  unfold sDrop eFnF
  rw [aC_ok (f := eVar 0) (var_ok (n := 0) (d := .int k) rfl) (aC_ok (f := eVar 1) (var_ok (n := 0) (d := .int one) rfl) (aC_ok (f := eVar 3) (var_ok (n := 0) (d := .str txt) rfl) (g := aNil) rfl))]
  dsimp only
  rw [h]
  dsimp only
  rw [if_pos hf]
theorem raised_of (T : Txt P K mg) (k one two : Int) (txt : Str) (e : Exo) (told : List D) (hm : e.C ∈ [T.a_BadChange, T.a_BadDoors, T.a_BadJournal, T.a_BadLine, T.a_BadName, T.a_BadNode, T.a_BadOrder, T.a_BadPolicy, T.a_BadRing, T.a_BadRun, T.a_BadStart, T.a_BadStay, T.a_BadWord, T.a_BareLoop, T.a_DeskError, T.a_DuplicateMark, T.a_Incomplete, T.a_Misplaced, T.a_MixedGraphs, T.a_NameTaken, T.a_NoEnd, T.a_NoMark, T.a_NoProgram, T.a_NoTeam, T.a_NoWild, T.a_NotOver, T.a_NotStanding, T.a_NothingToRedo, T.a_NothingToUndo, T.a_TextError, T.a_TooDeep, T.a_TooLarge, T.a_Unclosed, T.a_Unending, T.a_Unreachable, T.a_WildProgram])
    (hb : (sIf (eTest (eOp gLt (eVar 0) (eC (.int 19)))) (sDrop (eFnF (m_law_first T) (aCons (eVar 0) (aCons (eVar 1) (aCons (eVar 2) aNil))))) (sDrop (eFnF (m_law_second T) (aCons (eVar 0) (aCons (eVar 1) (aCons (eVar 3) aNil)))))) [.v 0 (.int k), .v 0 (.int one), .v 0 (.int two), .v 0 (.str txt), .un, .un, .un] = .exc e [.v 0 (.int k), .v 0 (.int one), .v 0 (.int two), .v 0 (.str txt), .un, .un, .un])
    (hk : ∀ a : Ha, m_law_kinds T a e [exv a e] = .ok (1, .lst (((List.range 36).map (fk k)).map .bl))) (hv : PySem.W.kitAny K (.ref e.C) [.type "ValueError"] = some true)
    (hf : ∀ a : Ha, m_law_fields T a e [.int k, exv a e] = .ok (1, .lst told)) (hd : ∀ a : Ha, m_law_due T a e [.int k, .int one, .int two, .str txt] = .ok (1, .lst told)) (hl : told.length ≤ 100) (ht : ∀ d ∈ told, Told d) :
    m_law_raised T [.int k, .int one, .int two, .str txt] = .ok (0, .bl true) := by
  obtain ⟨x1, x2⟩ := exmTab_at T.xt_ForeworthError hm
  unfold m_law_raised c_law_raised
  exact fn_rt rfl rfl (seq_rt (sTry_exc hb x1 fun a => suite_ok T a e k one two txt told x2 (hk a) hv (hf a) (hd a) hl ht))
theorem raised_0 (T : Txt P K mg) (one two : Int) (txt : Str) (h1 : fmD (.int one) = true) (h2 : fmD (.int two) = true) (h3 : fmD (.str txt) = true) (h4 : PyData.strOk txt = true) : m_law_raised T [.int 0, .int one, .int two, .str txt] = .ok (0, .bl true) := by
  have e1 : m_law_first T [.int 0, .int one, .int two] = .exc ⟨T.a_BadNode, some [("node", .int one)]⟩ := fn_ex rfl rfl ((congrFun (first_sel T) _).trans (sel_at (raise1 rfl h1) rfl))
  have hC := (exmTab_at T.xt_ForeworthError (c := T.a_BadNode) (by simp)).2
  have tb := fun (j : Nat) (w : Value) (b : Bool) => isTab_at T.tab (i := 5) (j := j) (c := T.a_BadNode) (r := [true, false, false, false, false, false, false, false, false, false, false, false, false, false, false, false, false, false, false, false, false, false, false, false, false, false, false, false, false, false, false, false, false, false, false, false, true]) (w := w) (b := b) rfl rfl
  refine raised_of T 0 one two txt ⟨T.a_BadNode, some [("node", .int one)]⟩ [.int one] (by simp) (body_lt T (by decide) e1 rfl) (fun a => ?_) (tb 36 _ _ rfl rfl) (fun a => ?_) (fun a => ?_) (show 1 ≤ 100 by decide) (told1 (.inl ⟨_, rfl⟩))
  · rw [show (List.range 36).map (fk 0) = [true, false, false, false, false, false, false, false, false, false, false, false, false, false, false, false, false, false, false, false, false, false, false, false, false, false, false, false, false, false, false, false, false, false, false, false] by decide +kernel]
    exact v_kinds T a _ hC true false false false false false false false false false false false false false false false false false false false false false false false false false false false false false false false false false false false true tb
  · exact fn_rt rfl rfl ((fields_eq T a _ 0 _).trans (show (sRet (eLst (a0Cons (eXf K a ⟨T.a_BadNode, some [("node", .int one)]⟩ "node" (eVar 1)) aNil))) [.v 0 (.int 0), .v 0 (exv a ⟨T.a_BadNode, some [("node", .int one)]⟩)] = .rt 1 (.lst [.int one]) from ret_ok (lst_ok (ds := [.int one]) (a0_ok (xf_ok hC (T.rz_BadNode.no "node" (by simp)) rfl rfl rfl) rfl) (show 1 ≤ 10000000 by decide))))
  · exact fn_rt rfl rfl ((due_eq T a _ 0 _ _ _).trans (show (sRet (eLst (a0Cons (eVar 1) aNil))) [.v 0 (.int 0), .v 0 (.int one), .v 0 (.int two), .v 0 (.str txt)] = .rt 1 (.lst [.int one]) from ret_ok (lst_ok (ds := [.int one]) (a0_ok (var_ok rfl) rfl) (show 1 ≤ 10000000 by decide))))
theorem raised_1 (T : Txt P K mg) (one two : Int) (txt : Str) (h1 : fmD (.int one) = true) (h2 : fmD (.int two) = true) (h3 : fmD (.str txt) = true) (h4 : PyData.strOk txt = true) : m_law_raised T [.int 1, .int one, .int two, .str txt] = .ok (0, .bl true) := by
  have e1 : m_law_first T [.int 1, .int one, .int two] = .exc ⟨T.a_Unreachable, some [("node", .int one)]⟩ := fn_ex rfl rfl ((congrFun (first_sel T) _).trans (sel_at (raise1 rfl h1) rfl))
  have hC := (exmTab_at T.xt_ForeworthError (c := T.a_Unreachable) (by simp)).2
  have tb := fun (j : Nat) (w : Value) (b : Bool) => isTab_at T.tab (i := 34) (j := j) (c := T.a_Unreachable) (r := [false, true, false, false, false, false, false, false, false, false, false, false, false, false, false, false, false, false, false, false, false, false, false, false, false, false, false, false, false, false, false, false, false, false, false, false, true]) (w := w) (b := b) rfl rfl
  refine raised_of T 1 one two txt ⟨T.a_Unreachable, some [("node", .int one)]⟩ [.int one] (by simp) (body_lt T (by decide) e1 rfl) (fun a => ?_) (tb 36 _ _ rfl rfl) (fun a => ?_) (fun a => ?_) (show 1 ≤ 100 by decide) (told1 (.inl ⟨_, rfl⟩))
  · rw [show (List.range 36).map (fk 1) = [false, true, false, false, false, false, false, false, false, false, false, false, false, false, false, false, false, false, false, false, false, false, false, false, false, false, false, false, false, false, false, false, false, false, false, false] by decide +kernel]
    exact v_kinds T a _ hC false true false false false false false false false false false false false false false false false false false false false false false false false false false false false false false false false false false false true tb
  · exact fn_rt rfl rfl ((fields_eq T a _ 1 _).trans (show (sRet (eLst (a0Cons (eXf K a ⟨T.a_Unreachable, some [("node", .int one)]⟩ "node" (eVar 1)) aNil))) [.v 0 (.int 1), .v 0 (exv a ⟨T.a_Unreachable, some [("node", .int one)]⟩)] = .rt 1 (.lst [.int one]) from ret_ok (lst_ok (ds := [.int one]) (a0_ok (xf_ok hC (T.rz_Unreachable.no "node" (by simp)) rfl rfl rfl) rfl) (show 1 ≤ 10000000 by decide))))
  · exact fn_rt rfl rfl ((due_eq T a _ 1 _ _ _).trans (show (sRet (eLst (a0Cons (eVar 1) aNil))) [.v 0 (.int 1), .v 0 (.int one), .v 0 (.int two), .v 0 (.str txt)] = .rt 1 (.lst [.int one]) from ret_ok (lst_ok (ds := [.int one]) (a0_ok (var_ok rfl) rfl) (show 1 ≤ 10000000 by decide))))
theorem raised_2 (T : Txt P K mg) (one two : Int) (txt : Str) (h1 : fmD (.int one) = true) (h2 : fmD (.int two) = true) (h3 : fmD (.str txt) = true) (h4 : PyData.strOk txt = true) : m_law_raised T [.int 2, .int one, .int two, .str txt] = .ok (0, .bl true) := by
  have e1 : m_law_first T [.int 2, .int one, .int two] = .exc ⟨T.a_NoEnd, some [("node", .int one)]⟩ := fn_ex rfl rfl ((congrFun (first_sel T) _).trans (sel_at (raise1 rfl h1) rfl))
  have hC := (exmTab_at T.xt_ForeworthError (c := T.a_NoEnd) (by simp)).2
  have tb := fun (j : Nat) (w : Value) (b : Bool) => isTab_at T.tab (i := 20) (j := j) (c := T.a_NoEnd) (r := [false, false, true, false, false, false, false, false, false, false, false, false, false, false, false, false, false, false, false, false, false, false, false, false, false, false, false, false, false, false, false, false, false, false, false, false, true]) (w := w) (b := b) rfl rfl
  refine raised_of T 2 one two txt ⟨T.a_NoEnd, some [("node", .int one)]⟩ [.int one] (by simp) (body_lt T (by decide) e1 rfl) (fun a => ?_) (tb 36 _ _ rfl rfl) (fun a => ?_) (fun a => ?_) (show 1 ≤ 100 by decide) (told1 (.inl ⟨_, rfl⟩))
  · rw [show (List.range 36).map (fk 2) = [false, false, true, false, false, false, false, false, false, false, false, false, false, false, false, false, false, false, false, false, false, false, false, false, false, false, false, false, false, false, false, false, false, false, false, false] by decide +kernel]
    exact v_kinds T a _ hC false false true false false false false false false false false false false false false false false false false false false false false false false false false false false false false false false false false false true tb
  · exact fn_rt rfl rfl ((fields_eq T a _ 2 _).trans (show (sRet (eLst (a0Cons (eXf K a ⟨T.a_NoEnd, some [("node", .int one)]⟩ "node" (eVar 1)) aNil))) [.v 0 (.int 2), .v 0 (exv a ⟨T.a_NoEnd, some [("node", .int one)]⟩)] = .rt 1 (.lst [.int one]) from ret_ok (lst_ok (ds := [.int one]) (a0_ok (xf_ok hC (T.rz_NoEnd.no "node" (by simp)) rfl rfl rfl) rfl) (show 1 ≤ 10000000 by decide))))
  · exact fn_rt rfl rfl ((due_eq T a _ 2 _ _ _).trans (show (sRet (eLst (a0Cons (eVar 1) aNil))) [.v 0 (.int 2), .v 0 (.int one), .v 0 (.int two), .v 0 (.str txt)] = .rt 1 (.lst [.int one]) from ret_ok (lst_ok (ds := [.int one]) (a0_ok (var_ok rfl) rfl) (show 1 ≤ 10000000 by decide))))
theorem raised_3 (T : Txt P K mg) (one two : Int) (txt : Str) (h1 : fmD (.int one) = true) (h2 : fmD (.int two) = true) (h3 : fmD (.str txt) = true) (h4 : PyData.strOk txt = true) : m_law_raised T [.int 3, .int one, .int two, .str txt] = .ok (0, .bl true) := by
  have e1 : m_law_first T [.int 3, .int one, .int two] = .exc ⟨T.a_BadRing, none⟩ := fn_ex rfl rfl ((congrFun (first_sel T) _).trans (sel_at (rfl) rfl))
  have hC := (exmTab_at T.xt_ForeworthError (c := T.a_BadRing) (by simp)).2
  have tb := fun (j : Nat) (w : Value) (b : Bool) => isTab_at T.tab (i := 8) (j := j) (c := T.a_BadRing) (r := [false, false, false, true, false, false, false, false, false, false, false, false, false, false, false, false, false, false, false, false, false, false, false, false, false, false, false, false, false, false, false, false, false, false, false, false, true]) (w := w) (b := b) rfl rfl
  refine raised_of T 3 one two txt ⟨T.a_BadRing, none⟩ [] (by simp) (body_lt T (by decide) e1 rfl) (fun a => ?_) (tb 36 _ _ rfl rfl) (fun a => ?_) (fun a => ?_) (show 0 ≤ 100 by decide) (told0)
  · rw [show (List.range 36).map (fk 3) = [false, false, false, true, false, false, false, false, false, false, false, false, false, false, false, false, false, false, false, false, false, false, false, false, false, false, false, false, false, false, false, false, false, false, false, false] by decide +kernel]
    exact v_kinds T a _ hC false false false true false false false false false false false false false false false false false false false false false false false false false false false false false false false false false false false false true tb
  · exact fn_rt rfl rfl ((fields_eq T a _ 3 _).trans (show (sRet (eLst aNil)) [.v 0 (.int 3), .v 0 (exv a ⟨T.a_BadRing, none⟩)] = .rt 1 (.lst []) from ret_ok (lst_ok (ds := []) rfl (show 0 ≤ 10000000 by decide))))
  · exact fn_rt rfl rfl ((due_eq T a _ 3 _ _ _).trans (show (sRet (eLst aNil)) [.v 0 (.int 3), .v 0 (.int one), .v 0 (.int two), .v 0 (.str txt)] = .rt 1 (.lst []) from ret_ok (lst_ok (ds := []) rfl (show 0 ≤ 10000000 by decide))))
theorem raised_4 (T : Txt P K mg) (one two : Int) (txt : Str) (h1 : fmD (.int one) = true) (h2 : fmD (.int two) = true) (h3 : fmD (.str txt) = true) (h4 : PyData.strOk txt = true) : m_law_raised T [.int 4, .int one, .int two, .str txt] = .ok (0, .bl true) := by
  have e1 : m_law_first T [.int 4, .int one, .int two] = .exc ⟨T.a_TextError, some [("line", .int one)]⟩ := fn_ex rfl rfl ((congrFun (first_sel T) _).trans (sel_at (raise1 rfl h1) rfl))
  have hC := (exmTab_at T.xt_ForeworthError (c := T.a_TextError) (by simp)).2
  have tb := fun (j : Nat) (w : Value) (b : Bool) => isTab_at T.tab (i := 29) (j := j) (c := T.a_TextError) (r := [false, false, false, false, true, false, false, false, false, false, false, false, false, false, false, false, false, false, false, false, false, false, false, false, false, false, false, false, false, false, false, false, false, false, false, false, true]) (w := w) (b := b) rfl rfl
  refine raised_of T 4 one two txt ⟨T.a_TextError, some [("line", .int one)]⟩ [.int one] (by simp) (body_lt T (by decide) e1 rfl) (fun a => ?_) (tb 36 _ _ rfl rfl) (fun a => ?_) (fun a => ?_) (show 1 ≤ 100 by decide) (told1 (.inl ⟨_, rfl⟩))
  · rw [show (List.range 36).map (fk 4) = [false, false, false, false, true, false, false, false, false, false, false, false, false, false, false, false, false, false, false, false, false, false, false, false, false, false, false, false, false, false, false, false, false, false, false, false] by decide +kernel]
    exact v_kinds T a _ hC false false false false true false false false false false false false false false false false false false false false false false false false false false false false false false false false false false false false true tb
  · exact fn_rt rfl rfl ((fields_eq T a _ 4 _).trans (show (sRet (eLst (a0Cons (eXf K a ⟨T.a_TextError, some [("line", .int one)]⟩ "line" (eVar 1)) aNil))) [.v 0 (.int 4), .v 0 (exv a ⟨T.a_TextError, some [("line", .int one)]⟩)] = .rt 1 (.lst [.int one]) from ret_ok (lst_ok (ds := [.int one]) (a0_ok (xf_ok hC (T.rz_TextError.no "line" (by simp)) rfl rfl rfl) rfl) (show 1 ≤ 10000000 by decide))))
  · exact fn_rt rfl rfl ((due_eq T a _ 4 _ _ _).trans (show (sRet (eLst (a0Cons (eVar 1) aNil))) [.v 0 (.int 4), .v 0 (.int one), .v 0 (.int two), .v 0 (.str txt)] = .rt 1 (.lst [.int one]) from ret_ok (lst_ok (ds := [.int one]) (a0_ok (var_ok rfl) rfl) (show 1 ≤ 10000000 by decide))))
theorem raised_5 (T : Txt P K mg) (one two : Int) (txt : Str) (h1 : fmD (.int one) = true) (h2 : fmD (.int two) = true) (h3 : fmD (.str txt) = true) (h4 : PyData.strOk txt = true) : m_law_raised T [.int 5, .int one, .int two, .str txt] = .ok (0, .bl true) := by
  have e1 : m_law_first T [.int 5, .int one, .int two] = .exc ⟨T.a_BadLine, some [("line", .int one)]⟩ := fn_ex rfl rfl ((congrFun (first_sel T) _).trans (sel_at (raise1 rfl h1) rfl))
  have hC := (exmTab_at T.xt_ForeworthError (c := T.a_BadLine) (by simp)).2
  have tb := fun (j : Nat) (w : Value) (b : Bool) => isTab_at T.tab (i := 3) (j := j) (c := T.a_BadLine) (r := [false, false, false, false, true, true, false, false, false, false, false, false, false, false, false, false, false, false, false, false, false, false, false, false, false, false, false, false, false, false, false, false, false, false, false, false, true]) (w := w) (b := b) rfl rfl
  refine raised_of T 5 one two txt ⟨T.a_BadLine, some [("line", .int one)]⟩ [.int one] (by simp) (body_lt T (by decide) e1 rfl) (fun a => ?_) (tb 36 _ _ rfl rfl) (fun a => ?_) (fun a => ?_) (show 1 ≤ 100 by decide) (told1 (.inl ⟨_, rfl⟩))
  · rw [show (List.range 36).map (fk 5) = [false, false, false, false, true, true, false, false, false, false, false, false, false, false, false, false, false, false, false, false, false, false, false, false, false, false, false, false, false, false, false, false, false, false, false, false] by decide +kernel]
    exact v_kinds T a _ hC false false false false true true false false false false false false false false false false false false false false false false false false false false false false false false false false false false false false true tb
  · exact fn_rt rfl rfl ((fields_eq T a _ 5 _).trans (show (sRet (eLst (a0Cons (eXf K a ⟨T.a_BadLine, some [("line", .int one)]⟩ "line" (eVar 1)) aNil))) [.v 0 (.int 5), .v 0 (exv a ⟨T.a_BadLine, some [("line", .int one)]⟩)] = .rt 1 (.lst [.int one]) from ret_ok (lst_ok (ds := [.int one]) (a0_ok (xf_ok hC (T.rz_BadLine.no "line" (by simp)) rfl rfl rfl) rfl) (show 1 ≤ 10000000 by decide))))
  · exact fn_rt rfl rfl ((due_eq T a _ 5 _ _ _).trans (show (sRet (eLst (a0Cons (eVar 1) aNil))) [.v 0 (.int 5), .v 0 (.int one), .v 0 (.int two), .v 0 (.str txt)] = .rt 1 (.lst [.int one]) from ret_ok (lst_ok (ds := [.int one]) (a0_ok (var_ok rfl) rfl) (show 1 ≤ 10000000 by decide))))
theorem raised_6 (T : Txt P K mg) (one two : Int) (txt : Str) (h1 : fmD (.int one) = true) (h2 : fmD (.int two) = true) (h3 : fmD (.str txt) = true) (h4 : PyData.strOk txt = true) : m_law_raised T [.int 6, .int one, .int two, .str txt] = .ok (0, .bl true) := by
  have e1 : m_law_first T [.int 6, .int one, .int two] = .exc ⟨T.a_Misplaced, some [("line", .int one)]⟩ := fn_ex rfl rfl ((congrFun (first_sel T) _).trans (sel_at (raise1 rfl h1) rfl))
  have hC := (exmTab_at T.xt_ForeworthError (c := T.a_Misplaced) (by simp)).2
  have tb := fun (j : Nat) (w : Value) (b : Bool) => isTab_at T.tab (i := 17) (j := j) (c := T.a_Misplaced) (r := [false, false, false, false, true, false, true, false, false, false, false, false, false, false, false, false, false, false, false, false, false, false, false, false, false, false, false, false, false, false, false, false, false, false, false, false, true]) (w := w) (b := b) rfl rfl
  refine raised_of T 6 one two txt ⟨T.a_Misplaced, some [("line", .int one)]⟩ [.int one] (by simp) (body_lt T (by decide) e1 rfl) (fun a => ?_) (tb 36 _ _ rfl rfl) (fun a => ?_) (fun a => ?_) (show 1 ≤ 100 by decide) (told1 (.inl ⟨_, rfl⟩))
  · rw [show (List.range 36).map (fk 6) = [false, false, false, false, true, false, true, false, false, false, false, false, false, false, false, false, false, false, false, false, false, false, false, false, false, false, false, false, false, false, false, false, false, false, false, false] by decide +kernel]
    exact v_kinds T a _ hC false false false false true false true false false false false false false false false false false false false false false false false false false false false false false false false false false false false false true tb
  · exact fn_rt rfl rfl ((fields_eq T a _ 6 _).trans (show (sRet (eLst (a0Cons (eXf K a ⟨T.a_Misplaced, some [("line", .int one)]⟩ "line" (eVar 1)) aNil))) [.v 0 (.int 6), .v 0 (exv a ⟨T.a_Misplaced, some [("line", .int one)]⟩)] = .rt 1 (.lst [.int one]) from ret_ok (lst_ok (ds := [.int one]) (a0_ok (xf_ok hC (T.rz_Misplaced.no "line" (by simp)) rfl rfl rfl) rfl) (show 1 ≤ 10000000 by decide))))
  · exact fn_rt rfl rfl ((due_eq T a _ 6 _ _ _).trans (show (sRet (eLst (a0Cons (eVar 1) aNil))) [.v 0 (.int 6), .v 0 (.int one), .v 0 (.int two), .v 0 (.str txt)] = .rt 1 (.lst [.int one]) from ret_ok (lst_ok (ds := [.int one]) (a0_ok (var_ok rfl) rfl) (show 1 ≤ 10000000 by decide))))
theorem raised_7 (T : Txt P K mg) (one two : Int) (txt : Str) (h1 : fmD (.int one) = true) (h2 : fmD (.int two) = true) (h3 : fmD (.str txt) = true) (h4 : PyData.strOk txt = true) : m_law_raised T [.int 7, .int one, .int two, .str txt] = .ok (0, .bl true) := by
  have e1 : m_law_first T [.int 7, .int one, .int two] = .exc ⟨T.a_TooDeep, some [("line", .int one)]⟩ := fn_ex rfl rfl ((congrFun (first_sel T) _).trans (sel_at (raise1 rfl h1) rfl))
  have hC := (exmTab_at T.xt_ForeworthError (c := T.a_TooDeep) (by simp)).2
  have tb := fun (j : Nat) (w : Value) (b : Bool) => isTab_at T.tab (i := 30) (j := j) (c := T.a_TooDeep) (r := [false, false, false, false, true, false, false, true, false, false, false, false, false, false, false, false, false, false, false, false, false, false, false, false, false, false, false, false, false, false, false, false, false, false, false, false, true]) (w := w) (b := b) rfl rfl
  refine raised_of T 7 one two txt ⟨T.a_TooDeep, some [("line", .int one)]⟩ [.int one] (by simp) (body_lt T (by decide) e1 rfl) (fun a => ?_) (tb 36 _ _ rfl rfl) (fun a => ?_) (fun a => ?_) (show 1 ≤ 100 by decide) (told1 (.inl ⟨_, rfl⟩))
  · rw [show (List.range 36).map (fk 7) = [false, false, false, false, true, false, false, true, false, false, false, false, false, false, false, false, false, false, false, false, false, false, false, false, false, false, false, false, false, false, false, false, false, false, false, false] by decide +kernel]
    exact v_kinds T a _ hC false false false false true false false true false false false false false false false false false false false false false false false false false false false false false false false false false false false false true tb
  · exact fn_rt rfl rfl ((fields_eq T a _ 7 _).trans (show (sRet (eLst (a0Cons (eXf K a ⟨T.a_TooDeep, some [("line", .int one)]⟩ "line" (eVar 1)) aNil))) [.v 0 (.int 7), .v 0 (exv a ⟨T.a_TooDeep, some [("line", .int one)]⟩)] = .rt 1 (.lst [.int one]) from ret_ok (lst_ok (ds := [.int one]) (a0_ok (xf_ok hC (T.rz_TooDeep.no "line" (by simp)) rfl rfl rfl) rfl) (show 1 ≤ 10000000 by decide))))
  · exact fn_rt rfl rfl ((due_eq T a _ 7 _ _ _).trans (show (sRet (eLst (a0Cons (eVar 1) aNil))) [.v 0 (.int 7), .v 0 (.int one), .v 0 (.int two), .v 0 (.str txt)] = .rt 1 (.lst [.int one]) from ret_ok (lst_ok (ds := [.int one]) (a0_ok (var_ok rfl) rfl) (show 1 ≤ 10000000 by decide))))
theorem raised_8 (T : Txt P K mg) (one two : Int) (txt : Str) (h1 : fmD (.int one) = true) (h2 : fmD (.int two) = true) (h3 : fmD (.str txt) = true) (h4 : PyData.strOk txt = true) : m_law_raised T [.int 8, .int one, .int two, .str txt] = .ok (0, .bl true) := by
  have e1 : m_law_first T [.int 8, .int one, .int two] = .exc ⟨T.a_DuplicateMark, some [("line", .int one)]⟩ := fn_ex rfl rfl ((congrFun (first_sel T) _).trans (sel_at (raise1 rfl h1) rfl))
  have hC := (exmTab_at T.xt_ForeworthError (c := T.a_DuplicateMark) (by simp)).2
  have tb := fun (j : Nat) (w : Value) (b : Bool) => isTab_at T.tab (i := 15) (j := j) (c := T.a_DuplicateMark) (r := [false, false, false, false, true, false, false, false, true, false, false, false, false, false, false, false, false, false, false, false, false, false, false, false, false, false, false, false, false, false, false, false, false, false, false, false, true]) (w := w) (b := b) rfl rfl
  refine raised_of T 8 one two txt ⟨T.a_DuplicateMark, some [("line", .int one)]⟩ [.int one] (by simp) (body_lt T (by decide) e1 rfl) (fun a => ?_) (tb 36 _ _ rfl rfl) (fun a => ?_) (fun a => ?_) (show 1 ≤ 100 by decide) (told1 (.inl ⟨_, rfl⟩))
  · rw [show (List.range 36).map (fk 8) = [false, false, false, false, true, false, false, false, true, false, false, false, false, false, false, false, false, false, false, false, false, false, false, false, false, false, false, false, false, false, false, false, false, false, false, false] by decide +kernel]
    exact v_kinds T a _ hC false false false false true false false false true false false false false false false false false false false false false false false false false false false false false false false false false false false false true tb
  · exact fn_rt rfl rfl ((fields_eq T a _ 8 _).trans (show (sRet (eLst (a0Cons (eXf K a ⟨T.a_DuplicateMark, some [("line", .int one)]⟩ "line" (eVar 1)) aNil))) [.v 0 (.int 8), .v 0 (exv a ⟨T.a_DuplicateMark, some [("line", .int one)]⟩)] = .rt 1 (.lst [.int one]) from ret_ok (lst_ok (ds := [.int one]) (a0_ok (xf_ok hC (T.rz_DuplicateMark.no "line" (by simp)) rfl rfl rfl) rfl) (show 1 ≤ 10000000 by decide))))
  · exact fn_rt rfl rfl ((due_eq T a _ 8 _ _ _).trans (show (sRet (eLst (a0Cons (eVar 1) aNil))) [.v 0 (.int 8), .v 0 (.int one), .v 0 (.int two), .v 0 (.str txt)] = .rt 1 (.lst [.int one]) from ret_ok (lst_ok (ds := [.int one]) (a0_ok (var_ok rfl) rfl) (show 1 ≤ 10000000 by decide))))
theorem raised_9 (T : Txt P K mg) (one two : Int) (txt : Str) (h1 : fmD (.int one) = true) (h2 : fmD (.int two) = true) (h3 : fmD (.str txt) = true) (h4 : PyData.strOk txt = true) : m_law_raised T [.int 9, .int one, .int two, .str txt] = .ok (0, .bl true) := by
  have e1 : m_law_first T [.int 9, .int one, .int two] = .exc ⟨T.a_Unclosed, some [("line", .int one)]⟩ := fn_ex rfl rfl ((congrFun (first_sel T) _).trans (sel_at (raise1 rfl h1) rfl))
  have hC := (exmTab_at T.xt_ForeworthError (c := T.a_Unclosed) (by simp)).2
  have tb := fun (j : Nat) (w : Value) (b : Bool) => isTab_at T.tab (i := 32) (j := j) (c := T.a_Unclosed) (r := [false, false, false, false, true, false, false, false, false, true, false, false, false, false, false, false, false, false, false, false, false, false, false, false, false, false, false, false, false, false, false, false, false, false, false, false, true]) (w := w) (b := b) rfl rfl
  refine raised_of T 9 one two txt ⟨T.a_Unclosed, some [("line", .int one)]⟩ [.int one] (by simp) (body_lt T (by decide) e1 rfl) (fun a => ?_) (tb 36 _ _ rfl rfl) (fun a => ?_) (fun a => ?_) (show 1 ≤ 100 by decide) (told1 (.inl ⟨_, rfl⟩))
  · rw [show (List.range 36).map (fk 9) = [false, false, false, false, true, false, false, false, false, true, false, false, false, false, false, false, false, false, false, false, false, false, false, false, false, false, false, false, false, false, false, false, false, false, false, false] by decide +kernel]
    exact v_kinds T a _ hC false false false false true false false false false true false false false false false false false false false false false false false false false false false false false false false false false false false false true tb
  · exact fn_rt rfl rfl ((fields_eq T a _ 9 _).trans (show (sRet (eLst (a0Cons (eXf K a ⟨T.a_Unclosed, some [("line", .int one)]⟩ "line" (eVar 1)) aNil))) [.v 0 (.int 9), .v 0 (exv a ⟨T.a_Unclosed, some [("line", .int one)]⟩)] = .rt 1 (.lst [.int one]) from ret_ok (lst_ok (ds := [.int one]) (a0_ok (xf_ok hC (T.rz_Unclosed.no "line" (by simp)) rfl rfl rfl) rfl) (show 1 ≤ 10000000 by decide))))
  · exact fn_rt rfl rfl ((due_eq T a _ 9 _ _ _).trans (show (sRet (eLst (a0Cons (eVar 1) aNil))) [.v 0 (.int 9), .v 0 (.int one), .v 0 (.int two), .v 0 (.str txt)] = .rt 1 (.lst [.int one]) from ret_ok (lst_ok (ds := [.int one]) (a0_ok (var_ok rfl) rfl) (show 1 ≤ 10000000 by decide))))
theorem raised_10 (T : Txt P K mg) (one two : Int) (txt : Str) (h1 : fmD (.int one) = true) (h2 : fmD (.int two) = true) (h3 : fmD (.str txt) = true) (h4 : PyData.strOk txt = true) : m_law_raised T [.int 10, .int one, .int two, .str txt] = .ok (0, .bl true) := by
  have e1 : m_law_first T [.int 10, .int one, .int two] = .exc ⟨T.a_NoMark, some [("line", .int one)]⟩ := fn_ex rfl rfl ((congrFun (first_sel T) _).trans (sel_at (raise1 rfl h1) rfl))
  have hC := (exmTab_at T.xt_ForeworthError (c := T.a_NoMark) (by simp)).2
  have tb := fun (j : Nat) (w : Value) (b : Bool) => isTab_at T.tab (i := 21) (j := j) (c := T.a_NoMark) (r := [false, false, false, false, true, false, false, false, false, false, true, false, false, false, false, false, false, false, false, false, false, false, false, false, false, false, false, false, false, false, false, false, false, false, false, false, true]) (w := w) (b := b) rfl rfl
  refine raised_of T 10 one two txt ⟨T.a_NoMark, some [("line", .int one)]⟩ [.int one] (by simp) (body_lt T (by decide) e1 rfl) (fun a => ?_) (tb 36 _ _ rfl rfl) (fun a => ?_) (fun a => ?_) (show 1 ≤ 100 by decide) (told1 (.inl ⟨_, rfl⟩))
  · rw [show (List.range 36).map (fk 10) = [false, false, false, false, true, false, false, false, false, false, true, false, false, false, false, false, false, false, false, false, false, false, false, false, false, false, false, false, false, false, false, false, false, false, false, false] by decide +kernel]
    exact v_kinds T a _ hC false false false false true false false false false false true false false false false false false false false false false false false false false false false false false false false false false false false false true tb
  · exact fn_rt rfl rfl ((fields_eq T a _ 10 _).trans (show (sRet (eLst (a0Cons (eXf K a ⟨T.a_NoMark, some [("line", .int one)]⟩ "line" (eVar 1)) aNil))) [.v 0 (.int 10), .v 0 (exv a ⟨T.a_NoMark, some [("line", .int one)]⟩)] = .rt 1 (.lst [.int one]) from ret_ok (lst_ok (ds := [.int one]) (a0_ok (xf_ok hC (T.rz_NoMark.no "line" (by simp)) rfl rfl rfl) rfl) (show 1 ≤ 10000000 by decide))))
  · exact fn_rt rfl rfl ((due_eq T a _ 10 _ _ _).trans (show (sRet (eLst (a0Cons (eVar 1) aNil))) [.v 0 (.int 10), .v 0 (.int one), .v 0 (.int two), .v 0 (.str txt)] = .rt 1 (.lst [.int one]) from ret_ok (lst_ok (ds := [.int one]) (a0_ok (var_ok rfl) rfl) (show 1 ≤ 10000000 by decide))))
theorem raised_11 (T : Txt P K mg) (one two : Int) (txt : Str) (h1 : fmD (.int one) = true) (h2 : fmD (.int two) = true) (h3 : fmD (.str txt) = true) (h4 : PyData.strOk txt = true) : m_law_raised T [.int 11, .int one, .int two, .str txt] = .ok (0, .bl true) := by
  have e1 : m_law_first T [.int 11, .int one, .int two] = .exc ⟨T.a_BareLoop, some [("statement", .int one)]⟩ := fn_ex rfl rfl ((congrFun (first_sel T) _).trans (sel_at (raise1 rfl h1) rfl))
  have hC := (exmTab_at T.xt_ForeworthError (c := T.a_BareLoop) (by simp)).2
  have tb := fun (j : Nat) (w : Value) (b : Bool) => isTab_at T.tab (i := 13) (j := j) (c := T.a_BareLoop) (r := [false, false, false, false, false, false, false, false, false, false, false, true, false, false, false, false, false, false, false, false, false, false, false, false, false, false, false, false, false, false, false, false, false, false, false, false, true]) (w := w) (b := b) rfl rfl
  refine raised_of T 11 one two txt ⟨T.a_BareLoop, some [("statement", .int one)]⟩ [.int one] (by simp) (body_lt T (by decide) e1 rfl) (fun a => ?_) (tb 36 _ _ rfl rfl) (fun a => ?_) (fun a => ?_) (show 1 ≤ 100 by decide) (told1 (.inl ⟨_, rfl⟩))
  · rw [show (List.range 36).map (fk 11) = [false, false, false, false, false, false, false, false, false, false, false, true, false, false, false, false, false, false, false, false, false, false, false, false, false, false, false, false, false, false, false, false, false, false, false, false] by decide +kernel]
    exact v_kinds T a _ hC false false false false false false false false false false false true false false false false false false false false false false false false false false false false false false false false false false false false true tb
  · exact fn_rt rfl rfl ((fields_eq T a _ 11 _).trans (show (sRet (eLst (a0Cons (eXf K a ⟨T.a_BareLoop, some [("statement", .int one)]⟩ "statement" (eVar 1)) aNil))) [.v 0 (.int 11), .v 0 (exv a ⟨T.a_BareLoop, some [("statement", .int one)]⟩)] = .rt 1 (.lst [.int one]) from ret_ok (lst_ok (ds := [.int one]) (a0_ok (xf_ok hC (T.rz_BareLoop.no "statement" (by simp)) rfl rfl rfl) rfl) (show 1 ≤ 10000000 by decide))))
  · exact fn_rt rfl rfl ((due_eq T a _ 11 _ _ _).trans (show (sRet (eLst (a0Cons (eVar 1) aNil))) [.v 0 (.int 11), .v 0 (.int one), .v 0 (.int two), .v 0 (.str txt)] = .rt 1 (.lst [.int one]) from ret_ok (lst_ok (ds := [.int one]) (a0_ok (var_ok rfl) rfl) (show 1 ≤ 10000000 by decide))))
theorem raised_12 (T : Txt P K mg) (one two : Int) (txt : Str) (h1 : fmD (.int one) = true) (h2 : fmD (.int two) = true) (h3 : fmD (.str txt) = true) (h4 : PyData.strOk txt = true) : m_law_raised T [.int 12, .int one, .int two, .str txt] = .ok (0, .bl true) := by
  have e1 : m_law_first T [.int 12, .int one, .int two] = .exc ⟨T.a_BadStart, none⟩ := fn_ex rfl rfl ((congrFun (first_sel T) _).trans (sel_at (rfl) rfl))
  have hC := (exmTab_at T.xt_ForeworthError (c := T.a_BadStart) (by simp)).2
  have tb := fun (j : Nat) (w : Value) (b : Bool) => isTab_at T.tab (i := 10) (j := j) (c := T.a_BadStart) (r := [false, false, false, false, false, false, false, false, false, false, false, false, true, false, false, false, false, false, false, false, false, false, false, false, false, false, false, false, false, false, false, false, false, false, false, false, true]) (w := w) (b := b) rfl rfl
  refine raised_of T 12 one two txt ⟨T.a_BadStart, none⟩ [] (by simp) (body_lt T (by decide) e1 rfl) (fun a => ?_) (tb 36 _ _ rfl rfl) (fun a => ?_) (fun a => ?_) (show 0 ≤ 100 by decide) (told0)
  · rw [show (List.range 36).map (fk 12) = [false, false, false, false, false, false, false, false, false, false, false, false, true, false, false, false, false, false, false, false, false, false, false, false, false, false, false, false, false, false, false, false, false, false, false, false] by decide +kernel]
    exact v_kinds T a _ hC false false false false false false false false false false false false true false false false false false false false false false false false false false false false false false false false false false false false true tb
  · exact fn_rt rfl rfl ((fields_eq T a _ 12 _).trans (show (sRet (eLst aNil)) [.v 0 (.int 12), .v 0 (exv a ⟨T.a_BadStart, none⟩)] = .rt 1 (.lst []) from ret_ok (lst_ok (ds := []) rfl (show 0 ≤ 10000000 by decide))))
  · exact fn_rt rfl rfl ((due_eq T a _ 12 _ _ _).trans (show (sRet (eLst aNil)) [.v 0 (.int 12), .v 0 (.int one), .v 0 (.int two), .v 0 (.str txt)] = .rt 1 (.lst []) from ret_ok (lst_ok (ds := []) rfl (show 0 ≤ 10000000 by decide))))
theorem raised_13 (T : Txt P K mg) (one two : Int) (txt : Str) (h1 : fmD (.int one) = true) (h2 : fmD (.int two) = true) (h3 : fmD (.str txt) = true) (h4 : PyData.strOk txt = true) : m_law_raised T [.int 13, .int one, .int two, .str txt] = .ok (0, .bl true) := by
  have e1 : m_law_first T [.int 13, .int one, .int two] = .exc ⟨T.a_BadRun, some [("place", .int two), ("lane", .int one)]⟩ := fn_ex rfl rfl ((congrFun (first_sel T) _).trans (sel_at (raise2 rfl h1 rfl h2) rfl))
  have hC := (exmTab_at T.xt_ForeworthError (c := T.a_BadRun) (by simp)).2
  have tb := fun (j : Nat) (w : Value) (b : Bool) => isTab_at T.tab (i := 9) (j := j) (c := T.a_BadRun) (r := [false, false, false, false, false, false, false, false, false, false, false, false, false, true, false, false, false, false, false, false, false, false, false, false, false, false, false, false, false, false, false, false, false, false, false, false, true]) (w := w) (b := b) rfl rfl
  refine raised_of T 13 one two txt ⟨T.a_BadRun, some [("place", .int two), ("lane", .int one)]⟩ [.int one, .int two] (by simp) (body_lt T (by decide) e1 rfl) (fun a => ?_) (tb 36 _ _ rfl rfl) (fun a => ?_) (fun a => ?_) (show 2 ≤ 100 by decide) (told2 (.inl ⟨_, rfl⟩) (.inl ⟨_, rfl⟩))
  · rw [show (List.range 36).map (fk 13) = [false, false, false, false, false, false, false, false, false, false, false, false, false, true, false, false, false, false, false, false, false, false, false, false, false, false, false, false, false, false, false, false, false, false, false, false] by decide +kernel]
    exact v_kinds T a _ hC false false false false false false false false false false false false false true false false false false false false false false false false false false false false false false false false false false false false true tb
  · exact fn_rt rfl rfl ((fields_eq T a _ 13 _).trans (show (sRet (eLst (a0Cons (eXf K a ⟨T.a_BadRun, some [("place", .int two), ("lane", .int one)]⟩ "lane" (eVar 1)) (a0Cons (eXf K a ⟨T.a_BadRun, some [("place", .int two), ("lane", .int one)]⟩ "place" (eVar 1)) aNil)))) [.v 0 (.int 13), .v 0 (exv a ⟨T.a_BadRun, some [("place", .int two), ("lane", .int one)]⟩)] = .rt 1 (.lst [.int one, .int two]) from ret_ok (lst_ok (ds := [.int one, .int two]) (a0_ok (xf_ok hC (T.rz_BadRun.no "lane" (by simp)) rfl rfl rfl) (a0_ok (xf_ok hC (T.rz_BadRun.no "place" (by simp)) rfl rfl rfl) rfl)) (show 2 ≤ 10000000 by decide))))
  · exact fn_rt rfl rfl ((due_eq T a _ 13 _ _ _).trans (show (sRet (eLst (a0Cons (eVar 1) (a0Cons (eVar 2) aNil)))) [.v 0 (.int 13), .v 0 (.int one), .v 0 (.int two), .v 0 (.str txt)] = .rt 1 (.lst [.int one, .int two]) from ret_ok (lst_ok (ds := [.int one, .int two]) (a0_ok (var_ok rfl) (a0_ok (var_ok rfl) rfl)) (show 2 ≤ 10000000 by decide))))
theorem raised_14 (T : Txt P K mg) (one two : Int) (txt : Str) (h1 : fmD (.int one) = true) (h2 : fmD (.int two) = true) (h3 : fmD (.str txt) = true) (h4 : PyData.strOk txt = true) : m_law_raised T [.int 14, .int one, .int two, .str txt] = .ok (0, .bl true) := by
  have e1 : m_law_first T [.int 14, .int one, .int two] = .exc ⟨T.a_NotStanding, some [("node", .int one)]⟩ := fn_ex rfl rfl ((congrFun (first_sel T) _).trans (sel_at (raise1 rfl h1) rfl))
  have hC := (exmTab_at T.xt_ForeworthError (c := T.a_NotStanding) (by simp)).2
  have tb := fun (j : Nat) (w : Value) (b : Bool) => isTab_at T.tab (i := 26) (j := j) (c := T.a_NotStanding) (r := [false, false, false, false, false, false, false, false, false, false, false, false, false, false, true, false, false, false, false, false, false, false, false, false, false, false, false, false, false, false, false, false, false, false, false, false, true]) (w := w) (b := b) rfl rfl
  refine raised_of T 14 one two txt ⟨T.a_NotStanding, some [("node", .int one)]⟩ [.int one] (by simp) (body_lt T (by decide) e1 rfl) (fun a => ?_) (tb 36 _ _ rfl rfl) (fun a => ?_) (fun a => ?_) (show 1 ≤ 100 by decide) (told1 (.inl ⟨_, rfl⟩))
  · rw [show (List.range 36).map (fk 14) = [false, false, false, false, false, false, false, false, false, false, false, false, false, false, true, false, false, false, false, false, false, false, false, false, false, false, false, false, false, false, false, false, false, false, false, false] by decide +kernel]
    exact v_kinds T a _ hC false false false false false false false false false false false false false false true false false false false false false false false false false false false false false false false false false false false false true tb
  · exact fn_rt rfl rfl ((fields_eq T a _ 14 _).trans (show (sRet (eLst (a0Cons (eXf K a ⟨T.a_NotStanding, some [("node", .int one)]⟩ "node" (eVar 1)) aNil))) [.v 0 (.int 14), .v 0 (exv a ⟨T.a_NotStanding, some [("node", .int one)]⟩)] = .rt 1 (.lst [.int one]) from ret_ok (lst_ok (ds := [.int one]) (a0_ok (xf_ok hC (T.rz_NotStanding.no "node" (by simp)) rfl rfl rfl) rfl) (show 1 ≤ 10000000 by decide))))
  · exact fn_rt rfl rfl ((due_eq T a _ 14 _ _ _).trans (show (sRet (eLst (a0Cons (eVar 1) aNil))) [.v 0 (.int 14), .v 0 (.int one), .v 0 (.int two), .v 0 (.str txt)] = .rt 1 (.lst [.int one]) from ret_ok (lst_ok (ds := [.int one]) (a0_ok (var_ok rfl) rfl) (show 1 ≤ 10000000 by decide))))
theorem raised_15 (T : Txt P K mg) (one two : Int) (txt : Str) (h1 : fmD (.int one) = true) (h2 : fmD (.int two) = true) (h3 : fmD (.str txt) = true) (h4 : PyData.strOk txt = true) : m_law_raised T [.int 15, .int one, .int two, .str txt] = .ok (0, .bl true) := by
  have e1 : m_law_first T [.int 15, .int one, .int two] = .exc ⟨T.a_Incomplete, none⟩ := fn_ex rfl rfl ((congrFun (first_sel T) _).trans (sel_at (rfl) rfl))
  have hC := (exmTab_at T.xt_ForeworthError (c := T.a_Incomplete) (by simp)).2
  have tb := fun (j : Nat) (w : Value) (b : Bool) => isTab_at T.tab (i := 16) (j := j) (c := T.a_Incomplete) (r := [false, false, false, false, false, false, false, false, false, false, false, false, false, false, false, true, false, false, false, false, false, false, false, false, false, false, false, false, false, false, false, false, false, false, false, false, true]) (w := w) (b := b) rfl rfl
  refine raised_of T 15 one two txt ⟨T.a_Incomplete, none⟩ [] (by simp) (body_lt T (by decide) e1 rfl) (fun a => ?_) (tb 36 _ _ rfl rfl) (fun a => ?_) (fun a => ?_) (show 0 ≤ 100 by decide) (told0)
  · rw [show (List.range 36).map (fk 15) = [false, false, false, false, false, false, false, false, false, false, false, false, false, false, false, true, false, false, false, false, false, false, false, false, false, false, false, false, false, false, false, false, false, false, false, false] by decide +kernel]
    exact v_kinds T a _ hC false false false false false false false false false false false false false false false true false false false false false false false false false false false false false false false false false false false false true tb
  · exact fn_rt rfl rfl ((fields_eq T a _ 15 _).trans (show (sRet (eLst aNil)) [.v 0 (.int 15), .v 0 (exv a ⟨T.a_Incomplete, none⟩)] = .rt 1 (.lst []) from ret_ok (lst_ok (ds := []) rfl (show 0 ≤ 10000000 by decide))))
  · exact fn_rt rfl rfl ((due_eq T a _ 15 _ _ _).trans (show (sRet (eLst aNil)) [.v 0 (.int 15), .v 0 (.int one), .v 0 (.int two), .v 0 (.str txt)] = .rt 1 (.lst []) from ret_ok (lst_ok (ds := []) rfl (show 0 ≤ 10000000 by decide))))
theorem raised_16 (T : Txt P K mg) (one two : Int) (txt : Str) (h1 : fmD (.int one) = true) (h2 : fmD (.int two) = true) (h3 : fmD (.str txt) = true) (h4 : PyData.strOk txt = true) : m_law_raised T [.int 16, .int one, .int two, .str txt] = .ok (0, .bl true) := by
  have e1 : m_law_first T [.int 16, .int one, .int two] = .exc ⟨T.a_BadStay, some [("place", .int one)]⟩ := fn_ex rfl rfl ((congrFun (first_sel T) _).trans (sel_at (raise1 rfl h1) rfl))
  have hC := (exmTab_at T.xt_ForeworthError (c := T.a_BadStay) (by simp)).2
  have tb := fun (j : Nat) (w : Value) (b : Bool) => isTab_at T.tab (i := 11) (j := j) (c := T.a_BadStay) (r := [false, false, false, false, false, false, false, false, false, false, false, false, false, false, false, false, true, false, false, false, false, false, false, false, false, false, false, false, false, false, false, false, false, false, false, false, true]) (w := w) (b := b) rfl rfl
  refine raised_of T 16 one two txt ⟨T.a_BadStay, some [("place", .int one)]⟩ [.int one] (by simp) (body_lt T (by decide) e1 rfl) (fun a => ?_) (tb 36 _ _ rfl rfl) (fun a => ?_) (fun a => ?_) (show 1 ≤ 100 by decide) (told1 (.inl ⟨_, rfl⟩))
  · rw [show (List.range 36).map (fk 16) = [false, false, false, false, false, false, false, false, false, false, false, false, false, false, false, false, true, false, false, false, false, false, false, false, false, false, false, false, false, false, false, false, false, false, false, false] by decide +kernel]
    exact v_kinds T a _ hC false false false false false false false false false false false false false false false false true false false false false false false false false false false false false false false false false false false false true tb
  · exact fn_rt rfl rfl ((fields_eq T a _ 16 _).trans (show (sRet (eLst (a0Cons (eXf K a ⟨T.a_BadStay, some [("place", .int one)]⟩ "place" (eVar 1)) aNil))) [.v 0 (.int 16), .v 0 (exv a ⟨T.a_BadStay, some [("place", .int one)]⟩)] = .rt 1 (.lst [.int one]) from ret_ok (lst_ok (ds := [.int one]) (a0_ok (xf_ok hC (T.rz_BadStay.no "place" (by simp)) rfl rfl rfl) rfl) (show 1 ≤ 10000000 by decide))))
  · exact fn_rt rfl rfl ((due_eq T a _ 16 _ _ _).trans (show (sRet (eLst (a0Cons (eVar 1) aNil))) [.v 0 (.int 16), .v 0 (.int one), .v 0 (.int two), .v 0 (.str txt)] = .rt 1 (.lst [.int one]) from ret_ok (lst_ok (ds := [.int one]) (a0_ok (var_ok rfl) rfl) (show 1 ≤ 10000000 by decide))))
theorem raised_17 (T : Txt P K mg) (one two : Int) (txt : Str) (h1 : fmD (.int one) = true) (h2 : fmD (.int two) = true) (h3 : fmD (.str txt) = true) (h4 : PyData.strOk txt = true) : m_law_raised T [.int 17, .int one, .int two, .str txt] = .ok (0, .bl true) := by
  have e1 : m_law_first T [.int 17, .int one, .int two] = .exc ⟨T.a_TooLarge, none⟩ := fn_ex rfl rfl ((congrFun (first_sel T) _).trans (sel_at (rfl) rfl))
  have hC := (exmTab_at T.xt_ForeworthError (c := T.a_TooLarge) (by simp)).2
  have tb := fun (j : Nat) (w : Value) (b : Bool) => isTab_at T.tab (i := 31) (j := j) (c := T.a_TooLarge) (r := [false, false, false, false, false, false, false, false, false, false, false, false, false, false, false, false, false, true, false, false, false, false, false, false, false, false, false, false, false, false, false, false, false, false, false, false, true]) (w := w) (b := b) rfl rfl
  refine raised_of T 17 one two txt ⟨T.a_TooLarge, none⟩ [] (by simp) (body_lt T (by decide) e1 rfl) (fun a => ?_) (tb 36 _ _ rfl rfl) (fun a => ?_) (fun a => ?_) (show 0 ≤ 100 by decide) (told0)
  · rw [show (List.range 36).map (fk 17) = [false, false, false, false, false, false, false, false, false, false, false, false, false, false, false, false, false, true, false, false, false, false, false, false, false, false, false, false, false, false, false, false, false, false, false, false] by decide +kernel]
    exact v_kinds T a _ hC false false false false false false false false false false false false false false false false false true false false false false false false false false false false false false false false false false false false true tb
  · exact fn_rt rfl rfl ((fields_eq T a _ 17 _).trans (show (sRet (eLst aNil)) [.v 0 (.int 17), .v 0 (exv a ⟨T.a_TooLarge, none⟩)] = .rt 1 (.lst []) from ret_ok (lst_ok (ds := []) rfl (show 0 ≤ 10000000 by decide))))
  · exact fn_rt rfl rfl ((due_eq T a _ 17 _ _ _).trans (show (sRet (eLst aNil)) [.v 0 (.int 17), .v 0 (.int one), .v 0 (.int two), .v 0 (.str txt)] = .rt 1 (.lst []) from ret_ok (lst_ok (ds := []) rfl (show 0 ≤ 10000000 by decide))))
theorem raised_18 (T : Txt P K mg) (one two : Int) (txt : Str) (h1 : fmD (.int one) = true) (h2 : fmD (.int two) = true) (h3 : fmD (.str txt) = true) (h4 : PyData.strOk txt = true) : m_law_raised T [.int 18, .int one, .int two, .str txt] = .ok (0, .bl true) := by
  have e1 : m_law_first T [.int 18, .int one, .int two] = .exc ⟨T.a_WildProgram, some [("node", .int one)]⟩ := fn_ex rfl rfl ((congrFun (first_sel T) _).trans (sel_at (raise1 rfl h1) rfl))
  have hC := (exmTab_at T.xt_ForeworthError (c := T.a_WildProgram) (by simp)).2
  have tb := fun (j : Nat) (w : Value) (b : Bool) => isTab_at T.tab (i := 35) (j := j) (c := T.a_WildProgram) (r := [false, false, false, false, false, false, false, false, false, false, false, false, false, false, false, false, false, false, true, false, false, false, false, false, false, false, false, false, false, false, false, false, false, false, false, false, true]) (w := w) (b := b) rfl rfl
  refine raised_of T 18 one two txt ⟨T.a_WildProgram, some [("node", .int one)]⟩ [.int one] (by simp) (body_lt T (by decide) e1 rfl) (fun a => ?_) (tb 36 _ _ rfl rfl) (fun a => ?_) (fun a => ?_) (show 1 ≤ 100 by decide) (told1 (.inl ⟨_, rfl⟩))
  · rw [show (List.range 36).map (fk 18) = [false, false, false, false, false, false, false, false, false, false, false, false, false, false, false, false, false, false, true, false, false, false, false, false, false, false, false, false, false, false, false, false, false, false, false, false] by decide +kernel]
    exact v_kinds T a _ hC false false false false false false false false false false false false false false false false false false true false false false false false false false false false false false false false false false false false true tb
  · exact fn_rt rfl rfl ((fields_eq T a _ 18 _).trans (show (sRet (eLst (a0Cons (eXf K a ⟨T.a_WildProgram, some [("node", .int one)]⟩ "node" (eVar 1)) aNil))) [.v 0 (.int 18), .v 0 (exv a ⟨T.a_WildProgram, some [("node", .int one)]⟩)] = .rt 1 (.lst [.int one]) from ret_ok (lst_ok (ds := [.int one]) (a0_ok (xf_ok hC (T.rz_WildProgram.no "node" (by simp)) rfl rfl rfl) rfl) (show 1 ≤ 10000000 by decide))))
  · exact fn_rt rfl rfl ((due_eq T a _ 18 _ _ _).trans (show (sRet (eLst (a0Cons (eVar 1) aNil))) [.v 0 (.int 18), .v 0 (.int one), .v 0 (.int two), .v 0 (.str txt)] = .rt 1 (.lst [.int one]) from ret_ok (lst_ok (ds := [.int one]) (a0_ok (var_ok rfl) rfl) (show 1 ≤ 10000000 by decide))))
theorem raised_19 (T : Txt P K mg) (one two : Int) (txt : Str) (h1 : fmD (.int one) = true) (h2 : fmD (.int two) = true) (h3 : fmD (.str txt) = true) (h4 : PyData.strOk txt = true) : m_law_raised T [.int 19, .int one, .int two, .str txt] = .ok (0, .bl true) := by
  have e1 : m_law_second T [.int 19, .int one, .str txt] = .exc ⟨T.a_NoWild, none⟩ := fn_ex rfl rfl ((congrFun (second_sel T) _).trans (sel_at (rfl) rfl))
  have hC := (exmTab_at T.xt_ForeworthError (c := T.a_NoWild) (by simp)).2
  have tb := fun (j : Nat) (w : Value) (b : Bool) => isTab_at T.tab (i := 24) (j := j) (c := T.a_NoWild) (r := [false, false, false, false, false, false, false, false, false, false, false, false, false, false, false, false, false, false, false, true, false, false, false, false, false, false, false, false, false, false, false, false, false, false, false, false, true]) (w := w) (b := b) rfl rfl
  refine raised_of T 19 one two txt ⟨T.a_NoWild, none⟩ [] (by simp) (body_ge T (by decide) e1 rfl) (fun a => ?_) (tb 36 _ _ rfl rfl) (fun a => ?_) (fun a => ?_) (show 0 ≤ 100 by decide) (told0)
  · rw [show (List.range 36).map (fk 19) = [false, false, false, false, false, false, false, false, false, false, false, false, false, false, false, false, false, false, false, true, false, false, false, false, false, false, false, false, false, false, false, false, false, false, false, false] by decide +kernel]
    exact v_kinds T a _ hC false false false false false false false false false false false false false false false false false false false true false false false false false false false false false false false false false false false false true tb
  · exact fn_rt rfl rfl ((fields_eq T a _ 19 _).trans (show (sRet (eLst aNil)) [.v 0 (.int 19), .v 0 (exv a ⟨T.a_NoWild, none⟩)] = .rt 1 (.lst []) from ret_ok (lst_ok (ds := []) rfl (show 0 ≤ 10000000 by decide))))
  · exact fn_rt rfl rfl ((due_eq T a _ 19 _ _ _).trans (show (sRet (eLst aNil)) [.v 0 (.int 19), .v 0 (.int one), .v 0 (.int two), .v 0 (.str txt)] = .rt 1 (.lst []) from ret_ok (lst_ok (ds := []) rfl (show 0 ≤ 10000000 by decide))))
theorem raised_20 (T : Txt P K mg) (one two : Int) (txt : Str) (h1 : fmD (.int one) = true) (h2 : fmD (.int two) = true) (h3 : fmD (.str txt) = true) (h4 : PyData.strOk txt = true) : m_law_raised T [.int 20, .int one, .int two, .str txt] = .ok (0, .bl true) := by
  have e1 : m_law_second T [.int 20, .int one, .str txt] = .exc ⟨T.a_BadWord, none⟩ := fn_ex rfl rfl ((congrFun (second_sel T) _).trans (sel_at (rfl) rfl))
  have hC := (exmTab_at T.xt_ForeworthError (c := T.a_BadWord) (by simp)).2
  have tb := fun (j : Nat) (w : Value) (b : Bool) => isTab_at T.tab (i := 12) (j := j) (c := T.a_BadWord) (r := [false, false, false, false, false, false, false, false, false, false, false, false, false, false, false, false, false, false, false, false, true, false, false, false, false, false, false, false, false, false, false, false, false, false, false, false, true]) (w := w) (b := b) rfl rfl
  refine raised_of T 20 one two txt ⟨T.a_BadWord, none⟩ [] (by simp) (body_ge T (by decide) e1 rfl) (fun a => ?_) (tb 36 _ _ rfl rfl) (fun a => ?_) (fun a => ?_) (show 0 ≤ 100 by decide) (told0)
  · rw [show (List.range 36).map (fk 20) = [false, false, false, false, false, false, false, false, false, false, false, false, false, false, false, false, false, false, false, false, true, false, false, false, false, false, false, false, false, false, false, false, false, false, false, false] by decide +kernel]
    exact v_kinds T a _ hC false false false false false false false false false false false false false false false false false false false false true false false false false false false false false false false false false false false false true tb
  · exact fn_rt rfl rfl ((fields_eq T a _ 20 _).trans (show (sRet (eLst aNil)) [.v 0 (.int 20), .v 0 (exv a ⟨T.a_BadWord, none⟩)] = .rt 1 (.lst []) from ret_ok (lst_ok (ds := []) rfl (show 0 ≤ 10000000 by decide))))
  · exact fn_rt rfl rfl ((due_eq T a _ 20 _ _ _).trans (show (sRet (eLst aNil)) [.v 0 (.int 20), .v 0 (.int one), .v 0 (.int two), .v 0 (.str txt)] = .rt 1 (.lst []) from ret_ok (lst_ok (ds := []) rfl (show 0 ≤ 10000000 by decide))))
theorem raised_21 (T : Txt P K mg) (one two : Int) (txt : Str) (h1 : fmD (.int one) = true) (h2 : fmD (.int two) = true) (h3 : fmD (.str txt) = true) (h4 : PyData.strOk txt = true) : m_law_raised T [.int 21, .int one, .int two, .str txt] = .ok (0, .bl true) := by
  have e1 : m_law_second T [.int 21, .int one, .str txt] = .exc ⟨T.a_BadChange, some [("node", .int one)]⟩ := fn_ex rfl rfl ((congrFun (second_sel T) _).trans (sel_at (raise1 rfl h1) rfl))
  have hC := (exmTab_at T.xt_ForeworthError (c := T.a_BadChange) (by simp)).2
  have tb := fun (j : Nat) (w : Value) (b : Bool) => isTab_at T.tab (i := 0) (j := j) (c := T.a_BadChange) (r := [false, false, false, false, false, false, false, false, false, false, false, false, false, false, false, false, false, false, false, false, false, true, false, false, false, false, false, false, false, false, false, false, false, false, false, false, true]) (w := w) (b := b) rfl rfl
  refine raised_of T 21 one two txt ⟨T.a_BadChange, some [("node", .int one)]⟩ [.int one] (by simp) (body_ge T (by decide) e1 rfl) (fun a => ?_) (tb 36 _ _ rfl rfl) (fun a => ?_) (fun a => ?_) (show 1 ≤ 100 by decide) (told1 (.inl ⟨_, rfl⟩))
  · rw [show (List.range 36).map (fk 21) = [false, false, false, false, false, false, false, false, false, false, false, false, false, false, false, false, false, false, false, false, false, true, false, false, false, false, false, false, false, false, false, false, false, false, false, false] by decide +kernel]
    exact v_kinds T a _ hC false false false false false false false false false false false false false false false false false false false false false true false false false false false false false false false false false false false false true tb
  · exact fn_rt rfl rfl ((fields_eq T a _ 21 _).trans (show (sRet (eLst (a0Cons (eXf K a ⟨T.a_BadChange, some [("node", .int one)]⟩ "node" (eVar 1)) aNil))) [.v 0 (.int 21), .v 0 (exv a ⟨T.a_BadChange, some [("node", .int one)]⟩)] = .rt 1 (.lst [.int one]) from ret_ok (lst_ok (ds := [.int one]) (a0_ok (xf_ok hC (T.rz_BadChange.no "node" (by simp)) rfl rfl rfl) rfl) (show 1 ≤ 10000000 by decide))))
  · exact fn_rt rfl rfl ((due_eq T a _ 21 _ _ _).trans (show (sRet (eLst (a0Cons (eVar 1) aNil))) [.v 0 (.int 21), .v 0 (.int one), .v 0 (.int two), .v 0 (.str txt)] = .rt 1 (.lst [.int one]) from ret_ok (lst_ok (ds := [.int one]) (a0_ok (var_ok rfl) rfl) (show 1 ≤ 10000000 by decide))))
theorem raised_22 (T : Txt P K mg) (one two : Int) (txt : Str) (h1 : fmD (.int one) = true) (h2 : fmD (.int two) = true) (h3 : fmD (.str txt) = true) (h4 : PyData.strOk txt = true) : m_law_raised T [.int 22, .int one, .int two, .str txt] = .ok (0, .bl true) := by
  have e1 : m_law_second T [.int 22, .int one, .str txt] = .exc ⟨T.a_BadDoors, none⟩ := fn_ex rfl rfl ((congrFun (second_sel T) _).trans (sel_at (rfl) rfl))
  have hC := (exmTab_at T.xt_ForeworthError (c := T.a_BadDoors) (by simp)).2
  have tb := fun (j : Nat) (w : Value) (b : Bool) => isTab_at T.tab (i := 1) (j := j) (c := T.a_BadDoors) (r := [false, false, false, false, false, false, false, false, false, false, false, false, false, false, false, false, false, false, false, false, false, false, true, false, false, false, false, false, false, false, false, false, false, false, false, false, true]) (w := w) (b := b) rfl rfl
  refine raised_of T 22 one two txt ⟨T.a_BadDoors, none⟩ [] (by simp) (body_ge T (by decide) e1 rfl) (fun a => ?_) (tb 36 _ _ rfl rfl) (fun a => ?_) (fun a => ?_) (show 0 ≤ 100 by decide) (told0)
  · rw [show (List.range 36).map (fk 22) = [false, false, false, false, false, false, false, false, false, false, false, false, false, false, false, false, false, false, false, false, false, false, true, false, false, false, false, false, false, false, false, false, false, false, false, false] by decide +kernel]
    exact v_kinds T a _ hC false false false false false false false false false false false false false false false false false false false false false false true false false false false false false false false false false false false false true tb
  · exact fn_rt rfl rfl ((fields_eq T a _ 22 _).trans (show (sRet (eLst aNil)) [.v 0 (.int 22), .v 0 (exv a ⟨T.a_BadDoors, none⟩)] = .rt 1 (.lst []) from ret_ok (lst_ok (ds := []) rfl (show 0 ≤ 10000000 by decide))))
  · exact fn_rt rfl rfl ((due_eq T a _ 22 _ _ _).trans (show (sRet (eLst aNil)) [.v 0 (.int 22), .v 0 (.int one), .v 0 (.int two), .v 0 (.str txt)] = .rt 1 (.lst []) from ret_ok (lst_ok (ds := []) rfl (show 0 ≤ 10000000 by decide))))
theorem raised_23 (T : Txt P K mg) (one two : Int) (txt : Str) (h1 : fmD (.int one) = true) (h2 : fmD (.int two) = true) (h3 : fmD (.str txt) = true) (h4 : PyData.strOk txt = true) : m_law_raised T [.int 23, .int one, .int two, .str txt] = .ok (0, .bl true) := by
  have e1 : m_law_second T [.int 23, .int one, .str txt] = .exc ⟨T.a_BadOrder, none⟩ := fn_ex rfl rfl ((congrFun (second_sel T) _).trans (sel_at (rfl) rfl))
  have hC := (exmTab_at T.xt_ForeworthError (c := T.a_BadOrder) (by simp)).2
  have tb := fun (j : Nat) (w : Value) (b : Bool) => isTab_at T.tab (i := 6) (j := j) (c := T.a_BadOrder) (r := [false, false, false, false, false, false, false, false, false, false, false, false, false, false, false, false, false, false, false, false, false, false, false, true, false, false, false, false, false, false, false, false, false, false, false, false, true]) (w := w) (b := b) rfl rfl
  refine raised_of T 23 one two txt ⟨T.a_BadOrder, none⟩ [] (by simp) (body_ge T (by decide) e1 rfl) (fun a => ?_) (tb 36 _ _ rfl rfl) (fun a => ?_) (fun a => ?_) (show 0 ≤ 100 by decide) (told0)
  · rw [show (List.range 36).map (fk 23) = [false, false, false, false, false, false, false, false, false, false, false, false, false, false, false, false, false, false, false, false, false, false, false, true, false, false, false, false, false, false, false, false, false, false, false, false] by decide +kernel]
    exact v_kinds T a _ hC false false false false false false false false false false false false false false false false false false false false false false false true false false false false false false false false false false false false true tb
  · exact fn_rt rfl rfl ((fields_eq T a _ 23 _).trans (show (sRet (eLst aNil)) [.v 0 (.int 23), .v 0 (exv a ⟨T.a_BadOrder, none⟩)] = .rt 1 (.lst []) from ret_ok (lst_ok (ds := []) rfl (show 0 ≤ 10000000 by decide))))
  · exact fn_rt rfl rfl ((due_eq T a _ 23 _ _ _).trans (show (sRet (eLst aNil)) [.v 0 (.int 23), .v 0 (.int one), .v 0 (.int two), .v 0 (.str txt)] = .rt 1 (.lst []) from ret_ok (lst_ok (ds := []) rfl (show 0 ≤ 10000000 by decide))))
theorem raised_24 (T : Txt P K mg) (one two : Int) (txt : Str) (h1 : fmD (.int one) = true) (h2 : fmD (.int two) = true) (h3 : fmD (.str txt) = true) (h4 : PyData.strOk txt = true) : m_law_raised T [.int 24, .int one, .int two, .str txt] = .ok (0, .bl true) := by
  have e1 : m_law_second T [.int 24, .int one, .str txt] = .exc ⟨T.a_MixedGraphs, none⟩ := fn_ex rfl rfl ((congrFun (second_sel T) _).trans (sel_at (rfl) rfl))
  have hC := (exmTab_at T.xt_ForeworthError (c := T.a_MixedGraphs) (by simp)).2
  have tb := fun (j : Nat) (w : Value) (b : Bool) => isTab_at T.tab (i := 18) (j := j) (c := T.a_MixedGraphs) (r := [false, false, false, false, false, false, false, false, false, false, false, false, false, false, false, false, false, false, false, false, false, false, false, false, true, false, false, false, false, false, false, false, false, false, false, false, true]) (w := w) (b := b) rfl rfl
  refine raised_of T 24 one two txt ⟨T.a_MixedGraphs, none⟩ [] (by simp) (body_ge T (by decide) e1 rfl) (fun a => ?_) (tb 36 _ _ rfl rfl) (fun a => ?_) (fun a => ?_) (show 0 ≤ 100 by decide) (told0)
  · rw [show (List.range 36).map (fk 24) = [false, false, false, false, false, false, false, false, false, false, false, false, false, false, false, false, false, false, false, false, false, false, false, false, true, false, false, false, false, false, false, false, false, false, false, false] by decide +kernel]
    exact v_kinds T a _ hC false false false false false false false false false false false false false false false false false false false false false false false false true false false false false false false false false false false false true tb
  · exact fn_rt rfl rfl ((fields_eq T a _ 24 _).trans (show (sRet (eLst aNil)) [.v 0 (.int 24), .v 0 (exv a ⟨T.a_MixedGraphs, none⟩)] = .rt 1 (.lst []) from ret_ok (lst_ok (ds := []) rfl (show 0 ≤ 10000000 by decide))))
  · exact fn_rt rfl rfl ((due_eq T a _ 24 _ _ _).trans (show (sRet (eLst aNil)) [.v 0 (.int 24), .v 0 (.int one), .v 0 (.int two), .v 0 (.str txt)] = .rt 1 (.lst []) from ret_ok (lst_ok (ds := []) rfl (show 0 ≤ 10000000 by decide))))
theorem raised_25 (T : Txt P K mg) (one two : Int) (txt : Str) (h1 : fmD (.int one) = true) (h2 : fmD (.int two) = true) (h3 : fmD (.str txt) = true) (h4 : PyData.strOk txt = true) : m_law_raised T [.int 25, .int one, .int two, .str txt] = .ok (0, .bl true) := by
  have e1 : m_law_second T [.int 25, .int one, .str txt] = .exc ⟨T.a_NotOver, none⟩ := fn_ex rfl rfl ((congrFun (second_sel T) _).trans (sel_at (rfl) rfl))
  have hC := (exmTab_at T.xt_ForeworthError (c := T.a_NotOver) (by simp)).2
  have tb := fun (j : Nat) (w : Value) (b : Bool) => isTab_at T.tab (i := 25) (j := j) (c := T.a_NotOver) (r := [false, false, false, false, false, false, false, false, false, false, false, false, false, false, false, false, false, false, false, false, false, false, false, false, false, true, false, false, false, false, false, false, false, false, false, false, true]) (w := w) (b := b) rfl rfl
  refine raised_of T 25 one two txt ⟨T.a_NotOver, none⟩ [] (by simp) (body_ge T (by decide) e1 rfl) (fun a => ?_) (tb 36 _ _ rfl rfl) (fun a => ?_) (fun a => ?_) (show 0 ≤ 100 by decide) (told0)
  · rw [show (List.range 36).map (fk 25) = [false, false, false, false, false, false, false, false, false, false, false, false, false, false, false, false, false, false, false, false, false, false, false, false, false, true, false, false, false, false, false, false, false, false, false, false] by decide +kernel]
    exact v_kinds T a _ hC false false false false false false false false false false false false false false false false false false false false false false false false false true false false false false false false false false false false true tb
  · exact fn_rt rfl rfl ((fields_eq T a _ 25 _).trans (show (sRet (eLst aNil)) [.v 0 (.int 25), .v 0 (exv a ⟨T.a_NotOver, none⟩)] = .rt 1 (.lst []) from ret_ok (lst_ok (ds := []) rfl (show 0 ≤ 10000000 by decide))))
  · exact fn_rt rfl rfl ((due_eq T a _ 25 _ _ _).trans (show (sRet (eLst aNil)) [.v 0 (.int 25), .v 0 (.int one), .v 0 (.int two), .v 0 (.str txt)] = .rt 1 (.lst []) from ret_ok (lst_ok (ds := []) rfl (show 0 ≤ 10000000 by decide))))
theorem raised_26 (T : Txt P K mg) (one two : Int) (txt : Str) (h1 : fmD (.int one) = true) (h2 : fmD (.int two) = true) (h3 : fmD (.str txt) = true) (h4 : PyData.strOk txt = true) : m_law_raised T [.int 26, .int one, .int two, .str txt] = .ok (0, .bl true) := by
  have e1 : m_law_second T [.int 26, .int one, .str txt] = .exc ⟨T.a_DeskError, none⟩ := fn_ex rfl rfl ((congrFun (second_sel T) _).trans (sel_at (rfl) rfl))
  have hC := (exmTab_at T.xt_ForeworthError (c := T.a_DeskError) (by simp)).2
  have tb := fun (j : Nat) (w : Value) (b : Bool) => isTab_at T.tab (i := 14) (j := j) (c := T.a_DeskError) (r := [false, false, false, false, false, false, false, false, false, false, false, false, false, false, false, false, false, false, false, false, false, false, false, false, false, false, true, false, false, false, false, false, false, false, false, false, true]) (w := w) (b := b) rfl rfl
  refine raised_of T 26 one two txt ⟨T.a_DeskError, none⟩ [] (by simp) (body_ge T (by decide) e1 rfl) (fun a => ?_) (tb 36 _ _ rfl rfl) (fun a => ?_) (fun a => ?_) (show 0 ≤ 100 by decide) (told0)
  · rw [show (List.range 36).map (fk 26) = [false, false, false, false, false, false, false, false, false, false, false, false, false, false, false, false, false, false, false, false, false, false, false, false, false, false, true, false, false, false, false, false, false, false, false, false] by decide +kernel]
    exact v_kinds T a _ hC false false false false false false false false false false false false false false false false false false false false false false false false false false true false false false false false false false false false true tb
  · exact fn_rt rfl rfl ((fields_eq T a _ 26 _).trans (show (sRet (eLst aNil)) [.v 0 (.int 26), .v 0 (exv a ⟨T.a_DeskError, none⟩)] = .rt 1 (.lst []) from ret_ok (lst_ok (ds := []) rfl (show 0 ≤ 10000000 by decide))))
  · exact fn_rt rfl rfl ((due_eq T a _ 26 _ _ _).trans (show (sRet (eLst aNil)) [.v 0 (.int 26), .v 0 (.int one), .v 0 (.int two), .v 0 (.str txt)] = .rt 1 (.lst []) from ret_ok (lst_ok (ds := []) rfl (show 0 ≤ 10000000 by decide))))
theorem raised_27 (T : Txt P K mg) (one two : Int) (txt : Str) (h1 : fmD (.int one) = true) (h2 : fmD (.int two) = true) (h3 : fmD (.str txt) = true) (h4 : PyData.strOk txt = true) : m_law_raised T [.int 27, .int one, .int two, .str txt] = .ok (0, .bl true) := by
  have e1 : m_law_second T [.int 27, .int one, .str txt] = .exc ⟨T.a_BadName, some [("name", .str txt)]⟩ := fn_ex rfl rfl ((congrFun (second_sel T) _).trans (sel_at (raise1 rfl h3) rfl))
  have hC := (exmTab_at T.xt_ForeworthError (c := T.a_BadName) (by simp)).2
  have tb := fun (j : Nat) (w : Value) (b : Bool) => isTab_at T.tab (i := 4) (j := j) (c := T.a_BadName) (r := [false, false, false, false, false, false, false, false, false, false, false, false, false, false, false, false, false, false, false, false, false, false, false, false, false, false, true, true, false, false, false, false, false, false, false, false, true]) (w := w) (b := b) rfl rfl
  refine raised_of T 27 one two txt ⟨T.a_BadName, some [("name", .str txt)]⟩ [.str txt] (by simp) (body_ge T (by decide) e1 rfl) (fun a => ?_) (tb 36 _ _ rfl rfl) (fun a => ?_) (fun a => ?_) (show 1 ≤ 100 by decide) (told1 (.inr ⟨_, rfl, h4⟩))
  · rw [show (List.range 36).map (fk 27) = [false, false, false, false, false, false, false, false, false, false, false, false, false, false, false, false, false, false, false, false, false, false, false, false, false, false, true, true, false, false, false, false, false, false, false, false] by decide +kernel]
    exact v_kinds T a _ hC false false false false false false false false false false false false false false false false false false false false false false false false false false true true false false false false false false false false true tb
  · exact fn_rt rfl rfl ((fields_eq T a _ 27 _).trans (show (sRet (eLst (a0Cons (eXf K a ⟨T.a_BadName, some [("name", .str txt)]⟩ "name" (eVar 1)) aNil))) [.v 0 (.int 27), .v 0 (exv a ⟨T.a_BadName, some [("name", .str txt)]⟩)] = .rt 1 (.lst [.str txt]) from ret_ok (lst_ok (ds := [.str txt]) (a0_ok (xf_ok hC (T.rz_BadName.no "name" (by simp)) rfl rfl rfl) rfl) (show 1 ≤ 10000000 by decide))))
  · exact fn_rt rfl rfl ((due_eq T a _ 27 _ _ _).trans (show (sRet (eLst (a0Cons (eVar 3) aNil))) [.v 0 (.int 27), .v 0 (.int one), .v 0 (.int two), .v 0 (.str txt)] = .rt 1 (.lst [.str txt]) from ret_ok (lst_ok (ds := [.str txt]) (a0_ok (var_ok rfl) rfl) (show 1 ≤ 10000000 by decide))))
theorem raised_28 (T : Txt P K mg) (one two : Int) (txt : Str) (h1 : fmD (.int one) = true) (h2 : fmD (.int two) = true) (h3 : fmD (.str txt) = true) (h4 : PyData.strOk txt = true) : m_law_raised T [.int 28, .int one, .int two, .str txt] = .ok (0, .bl true) := by
  have e1 : m_law_second T [.int 28, .int one, .str txt] = .exc ⟨T.a_NameTaken, some [("name", .str txt)]⟩ := fn_ex rfl rfl ((congrFun (second_sel T) _).trans (sel_at (raise1 rfl h3) rfl))
  have hC := (exmTab_at T.xt_ForeworthError (c := T.a_NameTaken) (by simp)).2
  have tb := fun (j : Nat) (w : Value) (b : Bool) => isTab_at T.tab (i := 19) (j := j) (c := T.a_NameTaken) (r := [false, false, false, false, false, false, false, false, false, false, false, false, false, false, false, false, false, false, false, false, false, false, false, false, false, false, true, false, true, false, false, false, false, false, false, false, true]) (w := w) (b := b) rfl rfl
  refine raised_of T 28 one two txt ⟨T.a_NameTaken, some [("name", .str txt)]⟩ [.str txt] (by simp) (body_ge T (by decide) e1 rfl) (fun a => ?_) (tb 36 _ _ rfl rfl) (fun a => ?_) (fun a => ?_) (show 1 ≤ 100 by decide) (told1 (.inr ⟨_, rfl, h4⟩))
  · rw [show (List.range 36).map (fk 28) = [false, false, false, false, false, false, false, false, false, false, false, false, false, false, false, false, false, false, false, false, false, false, false, false, false, false, true, false, true, false, false, false, false, false, false, false] by decide +kernel]
    exact v_kinds T a _ hC false false false false false false false false false false false false false false false false false false false false false false false false false false true false true false false false false false false false true tb
  · exact fn_rt rfl rfl ((fields_eq T a _ 28 _).trans (show (sRet (eLst (a0Cons (eXf K a ⟨T.a_NameTaken, some [("name", .str txt)]⟩ "name" (eVar 1)) aNil))) [.v 0 (.int 28), .v 0 (exv a ⟨T.a_NameTaken, some [("name", .str txt)]⟩)] = .rt 1 (.lst [.str txt]) from ret_ok (lst_ok (ds := [.str txt]) (a0_ok (xf_ok hC (T.rz_NameTaken.no "name" (by simp)) rfl rfl rfl) rfl) (show 1 ≤ 10000000 by decide))))
  · exact fn_rt rfl rfl ((due_eq T a _ 28 _ _ _).trans (show (sRet (eLst (a0Cons (eVar 3) aNil))) [.v 0 (.int 28), .v 0 (.int one), .v 0 (.int two), .v 0 (.str txt)] = .rt 1 (.lst [.str txt]) from ret_ok (lst_ok (ds := [.str txt]) (a0_ok (var_ok rfl) rfl) (show 1 ≤ 10000000 by decide))))
theorem raised_29 (T : Txt P K mg) (one two : Int) (txt : Str) (h1 : fmD (.int one) = true) (h2 : fmD (.int two) = true) (h3 : fmD (.str txt) = true) (h4 : PyData.strOk txt = true) : m_law_raised T [.int 29, .int one, .int two, .str txt] = .ok (0, .bl true) := by
  have e1 : m_law_second T [.int 29, .int one, .str txt] = .exc ⟨T.a_NoProgram, some [("name", .str txt)]⟩ := fn_ex rfl rfl ((congrFun (second_sel T) _).trans (sel_at (raise1 rfl h3) rfl))
  have hC := (exmTab_at T.xt_ForeworthError (c := T.a_NoProgram) (by simp)).2
  have tb := fun (j : Nat) (w : Value) (b : Bool) => isTab_at T.tab (i := 22) (j := j) (c := T.a_NoProgram) (r := [false, false, false, false, false, false, false, false, false, false, false, false, false, false, false, false, false, false, false, false, false, false, false, false, false, false, true, false, false, true, false, false, false, false, false, false, true]) (w := w) (b := b) rfl rfl
  refine raised_of T 29 one two txt ⟨T.a_NoProgram, some [("name", .str txt)]⟩ [.str txt] (by simp) (body_ge T (by decide) e1 rfl) (fun a => ?_) (tb 36 _ _ rfl rfl) (fun a => ?_) (fun a => ?_) (show 1 ≤ 100 by decide) (told1 (.inr ⟨_, rfl, h4⟩))
  · rw [show (List.range 36).map (fk 29) = [false, false, false, false, false, false, false, false, false, false, false, false, false, false, false, false, false, false, false, false, false, false, false, false, false, false, true, false, false, true, false, false, false, false, false, false] by decide +kernel]
    exact v_kinds T a _ hC false false false false false false false false false false false false false false false false false false false false false false false false false false true false false true false false false false false false true tb
  · exact fn_rt rfl rfl ((fields_eq T a _ 29 _).trans (show (sRet (eLst (a0Cons (eXf K a ⟨T.a_NoProgram, some [("name", .str txt)]⟩ "name" (eVar 1)) aNil))) [.v 0 (.int 29), .v 0 (exv a ⟨T.a_NoProgram, some [("name", .str txt)]⟩)] = .rt 1 (.lst [.str txt]) from ret_ok (lst_ok (ds := [.str txt]) (a0_ok (xf_ok hC (T.rz_NoProgram.no "name" (by simp)) rfl rfl rfl) rfl) (show 1 ≤ 10000000 by decide))))
  · exact fn_rt rfl rfl ((due_eq T a _ 29 _ _ _).trans (show (sRet (eLst (a0Cons (eVar 3) aNil))) [.v 0 (.int 29), .v 0 (.int one), .v 0 (.int two), .v 0 (.str txt)] = .rt 1 (.lst [.str txt]) from ret_ok (lst_ok (ds := [.str txt]) (a0_ok (var_ok rfl) rfl) (show 1 ≤ 10000000 by decide))))
theorem raised_30 (T : Txt P K mg) (one two : Int) (txt : Str) (h1 : fmD (.int one) = true) (h2 : fmD (.int two) = true) (h3 : fmD (.str txt) = true) (h4 : PyData.strOk txt = true) : m_law_raised T [.int 30, .int one, .int two, .str txt] = .ok (0, .bl true) := by
  have e1 : m_law_second T [.int 30, .int one, .str txt] = .exc ⟨T.a_NoTeam, some [("name", .str txt)]⟩ := fn_ex rfl rfl ((congrFun (second_sel T) _).trans (sel_at (raise1 rfl h3) rfl))
  have hC := (exmTab_at T.xt_ForeworthError (c := T.a_NoTeam) (by simp)).2
  have tb := fun (j : Nat) (w : Value) (b : Bool) => isTab_at T.tab (i := 23) (j := j) (c := T.a_NoTeam) (r := [false, false, false, false, false, false, false, false, false, false, false, false, false, false, false, false, false, false, false, false, false, false, false, false, false, false, true, false, false, false, true, false, false, false, false, false, true]) (w := w) (b := b) rfl rfl
  refine raised_of T 30 one two txt ⟨T.a_NoTeam, some [("name", .str txt)]⟩ [.str txt] (by simp) (body_ge T (by decide) e1 rfl) (fun a => ?_) (tb 36 _ _ rfl rfl) (fun a => ?_) (fun a => ?_) (show 1 ≤ 100 by decide) (told1 (.inr ⟨_, rfl, h4⟩))
  · rw [show (List.range 36).map (fk 30) = [false, false, false, false, false, false, false, false, false, false, false, false, false, false, false, false, false, false, false, false, false, false, false, false, false, false, true, false, false, false, true, false, false, false, false, false] by decide +kernel]
    exact v_kinds T a _ hC false false false false false false false false false false false false false false false false false false false false false false false false false false true false false false true false false false false false true tb
  · exact fn_rt rfl rfl ((fields_eq T a _ 30 _).trans (show (sRet (eLst (a0Cons (eXf K a ⟨T.a_NoTeam, some [("name", .str txt)]⟩ "name" (eVar 1)) aNil))) [.v 0 (.int 30), .v 0 (exv a ⟨T.a_NoTeam, some [("name", .str txt)]⟩)] = .rt 1 (.lst [.str txt]) from ret_ok (lst_ok (ds := [.str txt]) (a0_ok (xf_ok hC (T.rz_NoTeam.no "name" (by simp)) rfl rfl rfl) rfl) (show 1 ≤ 10000000 by decide))))
  · exact fn_rt rfl rfl ((due_eq T a _ 30 _ _ _).trans (show (sRet (eLst (a0Cons (eVar 3) aNil))) [.v 0 (.int 30), .v 0 (.int one), .v 0 (.int two), .v 0 (.str txt)] = .rt 1 (.lst [.str txt]) from ret_ok (lst_ok (ds := [.str txt]) (a0_ok (var_ok rfl) rfl) (show 1 ≤ 10000000 by decide))))
theorem raised_31 (T : Txt P K mg) (one two : Int) (txt : Str) (h1 : fmD (.int one) = true) (h2 : fmD (.int two) = true) (h3 : fmD (.str txt) = true) (h4 : PyData.strOk txt = true) : m_law_raised T [.int 31, .int one, .int two, .str txt] = .ok (0, .bl true) := by
  have e1 : m_law_second T [.int 31, .int one, .str txt] = .exc ⟨T.a_Unending, some [("lane", .int one)]⟩ := fn_ex rfl rfl ((congrFun (second_sel T) _).trans (sel_at (raise1 rfl h1) rfl))
  have hC := (exmTab_at T.xt_ForeworthError (c := T.a_Unending) (by simp)).2
  have tb := fun (j : Nat) (w : Value) (b : Bool) => isTab_at T.tab (i := 33) (j := j) (c := T.a_Unending) (r := [false, false, false, false, false, false, false, false, false, false, false, false, false, false, false, false, false, false, false, false, false, false, false, false, false, false, true, false, false, false, false, true, false, false, false, false, true]) (w := w) (b := b) rfl rfl
  refine raised_of T 31 one two txt ⟨T.a_Unending, some [("lane", .int one)]⟩ [.int one] (by simp) (body_ge T (by decide) e1 rfl) (fun a => ?_) (tb 36 _ _ rfl rfl) (fun a => ?_) (fun a => ?_) (show 1 ≤ 100 by decide) (told1 (.inl ⟨_, rfl⟩))
  · rw [show (List.range 36).map (fk 31) = [false, false, false, false, false, false, false, false, false, false, false, false, false, false, false, false, false, false, false, false, false, false, false, false, false, false, true, false, false, false, false, true, false, false, false, false] by decide +kernel]
    exact v_kinds T a _ hC false false false false false false false false false false false false false false false false false false false false false false false false false false true false false false false true false false false false true tb
  · exact fn_rt rfl rfl ((fields_eq T a _ 31 _).trans (show (sRet (eLst (a0Cons (eXf K a ⟨T.a_Unending, some [("lane", .int one)]⟩ "lane" (eVar 1)) aNil))) [.v 0 (.int 31), .v 0 (exv a ⟨T.a_Unending, some [("lane", .int one)]⟩)] = .rt 1 (.lst [.int one]) from ret_ok (lst_ok (ds := [.int one]) (a0_ok (xf_ok hC (T.rz_Unending.no "lane" (by simp)) rfl rfl rfl) rfl) (show 1 ≤ 10000000 by decide))))
  · exact fn_rt rfl rfl ((due_eq T a _ 31 _ _ _).trans (show (sRet (eLst (a0Cons (eVar 1) aNil))) [.v 0 (.int 31), .v 0 (.int one), .v 0 (.int two), .v 0 (.str txt)] = .rt 1 (.lst [.int one]) from ret_ok (lst_ok (ds := [.int one]) (a0_ok (var_ok rfl) rfl) (show 1 ≤ 10000000 by decide))))
theorem raised_32 (T : Txt P K mg) (one two : Int) (txt : Str) (h1 : fmD (.int one) = true) (h2 : fmD (.int two) = true) (h3 : fmD (.str txt) = true) (h4 : PyData.strOk txt = true) : m_law_raised T [.int 32, .int one, .int two, .str txt] = .ok (0, .bl true) := by
  have e1 : m_law_second T [.int 32, .int one, .str txt] = .exc ⟨T.a_BadPolicy, some [("name", .str txt)]⟩ := fn_ex rfl rfl ((congrFun (second_sel T) _).trans (sel_at (raise1 rfl h3) rfl))
  have hC := (exmTab_at T.xt_ForeworthError (c := T.a_BadPolicy) (by simp)).2
  have tb := fun (j : Nat) (w : Value) (b : Bool) => isTab_at T.tab (i := 7) (j := j) (c := T.a_BadPolicy) (r := [false, false, false, false, false, false, false, false, false, false, false, false, false, false, false, false, false, false, false, false, false, false, false, false, false, false, true, false, false, false, false, false, true, false, false, false, true]) (w := w) (b := b) rfl rfl
  refine raised_of T 32 one two txt ⟨T.a_BadPolicy, some [("name", .str txt)]⟩ [.str txt] (by simp) (body_ge T (by decide) e1 rfl) (fun a => ?_) (tb 36 _ _ rfl rfl) (fun a => ?_) (fun a => ?_) (show 1 ≤ 100 by decide) (told1 (.inr ⟨_, rfl, h4⟩))
  · rw [show (List.range 36).map (fk 32) = [false, false, false, false, false, false, false, false, false, false, false, false, false, false, false, false, false, false, false, false, false, false, false, false, false, false, true, false, false, false, false, false, true, false, false, false] by decide +kernel]
    exact v_kinds T a _ hC false false false false false false false false false false false false false false false false false false false false false false false false false false true false false false false false true false false false true tb
  · exact fn_rt rfl rfl ((fields_eq T a _ 32 _).trans (show (sRet (eLst (a0Cons (eXf K a ⟨T.a_BadPolicy, some [("name", .str txt)]⟩ "name" (eVar 1)) aNil))) [.v 0 (.int 32), .v 0 (exv a ⟨T.a_BadPolicy, some [("name", .str txt)]⟩)] = .rt 1 (.lst [.str txt]) from ret_ok (lst_ok (ds := [.str txt]) (a0_ok (xf_ok hC (T.rz_BadPolicy.no "name" (by simp)) rfl rfl rfl) rfl) (show 1 ≤ 10000000 by decide))))
  · exact fn_rt rfl rfl ((due_eq T a _ 32 _ _ _).trans (show (sRet (eLst (a0Cons (eVar 3) aNil))) [.v 0 (.int 32), .v 0 (.int one), .v 0 (.int two), .v 0 (.str txt)] = .rt 1 (.lst [.str txt]) from ret_ok (lst_ok (ds := [.str txt]) (a0_ok (var_ok rfl) rfl) (show 1 ≤ 10000000 by decide))))
theorem raised_33 (T : Txt P K mg) (one two : Int) (txt : Str) (h1 : fmD (.int one) = true) (h2 : fmD (.int two) = true) (h3 : fmD (.str txt) = true) (h4 : PyData.strOk txt = true) : m_law_raised T [.int 33, .int one, .int two, .str txt] = .ok (0, .bl true) := by
  have e1 : m_law_second T [.int 33, .int one, .str txt] = .exc ⟨T.a_NothingToUndo, none⟩ := fn_ex rfl rfl ((congrFun (second_sel T) _).trans (sel_at (rfl) rfl))
  have hC := (exmTab_at T.xt_ForeworthError (c := T.a_NothingToUndo) (by simp)).2
  have tb := fun (j : Nat) (w : Value) (b : Bool) => isTab_at T.tab (i := 28) (j := j) (c := T.a_NothingToUndo) (r := [false, false, false, false, false, false, false, false, false, false, false, false, false, false, false, false, false, false, false, false, false, false, false, false, false, false, true, false, false, false, false, false, false, true, false, false, true]) (w := w) (b := b) rfl rfl
  refine raised_of T 33 one two txt ⟨T.a_NothingToUndo, none⟩ [] (by simp) (body_ge T (by decide) e1 rfl) (fun a => ?_) (tb 36 _ _ rfl rfl) (fun a => ?_) (fun a => ?_) (show 0 ≤ 100 by decide) (told0)
  · rw [show (List.range 36).map (fk 33) = [false, false, false, false, false, false, false, false, false, false, false, false, false, false, false, false, false, false, false, false, false, false, false, false, false, false, true, false, false, false, false, false, false, true, false, false] by decide +kernel]
    exact v_kinds T a _ hC false false false false false false false false false false false false false false false false false false false false false false false false false false true false false false false false false true false false true tb
  · exact fn_rt rfl rfl ((fields_eq T a _ 33 _).trans (show (sRet (eLst aNil)) [.v 0 (.int 33), .v 0 (exv a ⟨T.a_NothingToUndo, none⟩)] = .rt 1 (.lst []) from ret_ok (lst_ok (ds := []) rfl (show 0 ≤ 10000000 by decide))))
  · exact fn_rt rfl rfl ((due_eq T a _ 33 _ _ _).trans (show (sRet (eLst aNil)) [.v 0 (.int 33), .v 0 (.int one), .v 0 (.int two), .v 0 (.str txt)] = .rt 1 (.lst []) from ret_ok (lst_ok (ds := []) rfl (show 0 ≤ 10000000 by decide))))
theorem raised_34 (T : Txt P K mg) (one two : Int) (txt : Str) (h1 : fmD (.int one) = true) (h2 : fmD (.int two) = true) (h3 : fmD (.str txt) = true) (h4 : PyData.strOk txt = true) : m_law_raised T [.int 34, .int one, .int two, .str txt] = .ok (0, .bl true) := by
  have e1 : m_law_second T [.int 34, .int one, .str txt] = .exc ⟨T.a_NothingToRedo, none⟩ := fn_ex rfl rfl ((congrFun (second_sel T) _).trans (sel_at (rfl) rfl))
  have hC := (exmTab_at T.xt_ForeworthError (c := T.a_NothingToRedo) (by simp)).2
  have tb := fun (j : Nat) (w : Value) (b : Bool) => isTab_at T.tab (i := 27) (j := j) (c := T.a_NothingToRedo) (r := [false, false, false, false, false, false, false, false, false, false, false, false, false, false, false, false, false, false, false, false, false, false, false, false, false, false, true, false, false, false, false, false, false, false, true, false, true]) (w := w) (b := b) rfl rfl
  refine raised_of T 34 one two txt ⟨T.a_NothingToRedo, none⟩ [] (by simp) (body_ge T (by decide) e1 rfl) (fun a => ?_) (tb 36 _ _ rfl rfl) (fun a => ?_) (fun a => ?_) (show 0 ≤ 100 by decide) (told0)
  · rw [show (List.range 36).map (fk 34) = [false, false, false, false, false, false, false, false, false, false, false, false, false, false, false, false, false, false, false, false, false, false, false, false, false, false, true, false, false, false, false, false, false, false, true, false] by decide +kernel]
    exact v_kinds T a _ hC false false false false false false false false false false false false false false false false false false false false false false false false false false true false false false false false false false true false true tb
  · exact fn_rt rfl rfl ((fields_eq T a _ 34 _).trans (show (sRet (eLst aNil)) [.v 0 (.int 34), .v 0 (exv a ⟨T.a_NothingToRedo, none⟩)] = .rt 1 (.lst []) from ret_ok (lst_ok (ds := []) rfl (show 0 ≤ 10000000 by decide))))
  · exact fn_rt rfl rfl ((due_eq T a _ 34 _ _ _).trans (show (sRet (eLst aNil)) [.v 0 (.int 34), .v 0 (.int one), .v 0 (.int two), .v 0 (.str txt)] = .rt 1 (.lst []) from ret_ok (lst_ok (ds := []) rfl (show 0 ≤ 10000000 by decide))))
theorem raised_35 (T : Txt P K mg) (one two : Int) (txt : Str) (h1 : fmD (.int one) = true) (h2 : fmD (.int two) = true) (h3 : fmD (.str txt) = true) (h4 : PyData.strOk txt = true) : m_law_raised T [.int 35, .int one, .int two, .str txt] = .ok (0, .bl true) := by
  have e1 : m_law_second T [.int 35, .int one, .str txt] = .exc ⟨T.a_BadJournal, some [("line", .int one)]⟩ := fn_ex rfl rfl ((congrFun (second_sel T) _).trans (sel_at (raise1 rfl h1) rfl))
  have hC := (exmTab_at T.xt_ForeworthError (c := T.a_BadJournal) (by simp)).2
  have tb := fun (j : Nat) (w : Value) (b : Bool) => isTab_at T.tab (i := 2) (j := j) (c := T.a_BadJournal) (r := [false, false, false, false, false, false, false, false, false, false, false, false, false, false, false, false, false, false, false, false, false, false, false, false, false, false, true, false, false, false, false, false, false, false, false, true, true]) (w := w) (b := b) rfl rfl
  refine raised_of T 35 one two txt ⟨T.a_BadJournal, some [("line", .int one)]⟩ [.int one] (by simp) (body_ge T (by decide) e1 rfl) (fun a => ?_) (tb 36 _ _ rfl rfl) (fun a => ?_) (fun a => ?_) (show 1 ≤ 100 by decide) (told1 (.inl ⟨_, rfl⟩))
  · rw [show (List.range 36).map (fk 35) = [false, false, false, false, false, false, false, false, false, false, false, false, false, false, false, false, false, false, false, false, false, false, false, false, false, false, true, false, false, false, false, false, false, false, false, true] by decide +kernel]
    exact v_kinds T a _ hC false false false false false false false false false false false false false false false false false false false false false false false false false false true false false false false false false false false true true tb
  · exact fn_rt rfl rfl ((fields_eq T a _ 35 _).trans (show (sRet (eLst (a0Cons (eXf K a ⟨T.a_BadJournal, some [("line", .int one)]⟩ "line" (eVar 1)) aNil))) [.v 0 (.int 35), .v 0 (exv a ⟨T.a_BadJournal, some [("line", .int one)]⟩)] = .rt 1 (.lst [.int one]) from ret_ok (lst_ok (ds := [.int one]) (a0_ok (xf_ok hC (T.rz_BadJournal.no "line" (by simp)) rfl rfl rfl) rfl) (show 1 ≤ 10000000 by decide))))
  · exact fn_rt rfl rfl ((due_eq T a _ 35 _ _ _).trans (show (sRet (eLst (a0Cons (eVar 1) aNil))) [.v 0 (.int 35), .v 0 (.int one), .v 0 (.int two), .v 0 (.str txt)] = .rt 1 (.lst [.int one]) from ret_ok (lst_ok (ds := [.int one]) (a0_ok (var_ok rfl) rfl) (show 1 ≤ 10000000 by decide))))
theorem raised_all (T : Txt P K mg) (one two : Int) (txt : Str) (h1 : fmD (.int one) = true) (h2 : fmD (.int two) = true) (h3 : fmD (.str txt) = true) (h4 : PyData.strOk txt = true) : ∀ k : Nat, k < 36 → m_law_raised T [.int (k : Int), .int one, .int two, .str txt] = .ok (0, .bl true)
  | 0, _ => raised_0 T one two txt h1 h2 h3 h4
  | 1, _ => raised_1 T one two txt h1 h2 h3 h4
  | 2, _ => raised_2 T one two txt h1 h2 h3 h4
  | 3, _ => raised_3 T one two txt h1 h2 h3 h4
  | 4, _ => raised_4 T one two txt h1 h2 h3 h4
  | 5, _ => raised_5 T one two txt h1 h2 h3 h4
  | 6, _ => raised_6 T one two txt h1 h2 h3 h4
  | 7, _ => raised_7 T one two txt h1 h2 h3 h4
  | 8, _ => raised_8 T one two txt h1 h2 h3 h4
  | 9, _ => raised_9 T one two txt h1 h2 h3 h4
  | 10, _ => raised_10 T one two txt h1 h2 h3 h4
  | 11, _ => raised_11 T one two txt h1 h2 h3 h4
  | 12, _ => raised_12 T one two txt h1 h2 h3 h4
  | 13, _ => raised_13 T one two txt h1 h2 h3 h4
  | 14, _ => raised_14 T one two txt h1 h2 h3 h4
  | 15, _ => raised_15 T one two txt h1 h2 h3 h4
  | 16, _ => raised_16 T one two txt h1 h2 h3 h4
  | 17, _ => raised_17 T one two txt h1 h2 h3 h4
  | 18, _ => raised_18 T one two txt h1 h2 h3 h4
  | 19, _ => raised_19 T one two txt h1 h2 h3 h4
  | 20, _ => raised_20 T one two txt h1 h2 h3 h4
  | 21, _ => raised_21 T one two txt h1 h2 h3 h4
  | 22, _ => raised_22 T one two txt h1 h2 h3 h4
  | 23, _ => raised_23 T one two txt h1 h2 h3 h4
  | 24, _ => raised_24 T one two txt h1 h2 h3 h4
  | 25, _ => raised_25 T one two txt h1 h2 h3 h4
  | 26, _ => raised_26 T one two txt h1 h2 h3 h4
  | 27, _ => raised_27 T one two txt h1 h2 h3 h4
  | 28, _ => raised_28 T one two txt h1 h2 h3 h4
  | 29, _ => raised_29 T one two txt h1 h2 h3 h4
  | 30, _ => raised_30 T one two txt h1 h2 h3 h4
  | 31, _ => raised_31 T one two txt h1 h2 h3 h4
  | 32, _ => raised_32 T one two txt h1 h2 h3 h4
  | 33, _ => raised_33 T one two txt h1 h2 h3 h4
  | 34, _ => raised_34 T one two txt h1 h2 h3 h4
  | 35, _ => raised_35 T one two txt h1 h2 h3 h4
  | k + 36, h => absurd h (by omega)
end
end K70

namespace K70
open PySem L2 Mv
theorem plain {P : Program} {K : PySem.W.Frag} {mg : Str → Option Value} (T : Txt P K mg) (ns : List Int) (_ : ns.length ≤ 63) (_ : ∀ z ∈ ns, Builtin.Int.intBits z ≤ 1048576) : m_law T [.rdl (ns.map D.int)] = .ok (0, .bl true) := by
  obtain ⟨c0, _, e0⟩ := v_seed ns 0 (by decide) (by decide)
  obtain ⟨c1, _, e1⟩ := v_seed ns 1 (by decide) (by decide)
  obtain ⟨c2, _, e2⟩ := v_seed ns 2 (by decide) (by decide)
  obtain ⟨one, a1, a2, n1⟩ := v_number c0
  obtain ⟨two, b1, b2, n2⟩ := v_number c1
  obtain ⟨txt, t1, t2, n3⟩ := v_text c2
  have s1 : (sAsg 1 (own0 (eFnF m_law_number (aCons (eFnF m_law_seed (aCons (eVar 0) (aCons (eC (.int 0)) aNil))) aNil)))) [.v 0 (rl ns), .un, .un, .un, .un] = .nx [.v 0 (rl ns), .v 0 (.int one), .un, .un, .un] :=
    asg_ok (own0_ok (fnF_ok (aOne (fnF_ok (aC_ok (var_ok rfl) (aOne c_ok)) e0 rfl)) n1 rfl))
  have s2 : (sAsg 2 (own0 (eFnF m_law_number (aCons (eFnF m_law_seed (aCons (eVar 0) (aCons (eC (.int 1)) aNil))) aNil)))) [.v 0 (rl ns), .v 0 (.int one), .un, .un, .un] = .nx [.v 0 (rl ns), .v 0 (.int one), .v 0 (.int two), .un, .un] :=
    asg_ok (own0_ok (fnF_ok (aOne (fnF_ok (aC_ok (var_ok rfl) (aOne c_ok)) e1 rfl)) n2 rfl))
  have s3 : (sAsg 3 (own0 (eFnF m_law_text (aCons (eFnF m_law_seed (aCons (eVar 0) (aCons (eC (.int 2)) aNil))) aNil)))) [.v 0 (rl ns), .v 0 (.int one), .v 0 (.int two), .un, .un] = .nx [.v 0 (rl ns), .v 0 (.int one), .v 0 (.int two), .v 0 (.str txt), .un] :=
    asg_ok (own0_ok (fnF_ok (aOne (fnF_ok (aC_ok (var_ok rfl) (aOne c_ok)) e2 rfl)) n3 rfl))
  obtain ⟨s', h1, o, h2⟩ := loop_nx (step := stepF (tgName 4) (c_law_1 T)) (fun _ st => ∃ o : Sl, st = [.v 0 (rl ns), .v 0 (.int one), .v 0 (.int two), .v 0 (.str txt), o]) (rngD 0 36) [.v 0 (rl ns), .v 0 (.int one), .v 0 (.int two), .v 0 (.str txt), .un] ⟨_, rfl⟩ (by
    rintro k d st hd ⟨o, rfl⟩
    obtain ⟨hk, rfl⟩ := rngD_get hd
    have se : ([.v 0 (rl ns), .v 0 (.int one), .v 0 (.int two), .v 0 (.str txt), o] : En).set 4 (.v 0 (.int (0 + (k : Int)))) = [.v 0 (rl ns), .v 0 (.int one), .v 0 (.int two), .v 0 (.str txt), .v 0 (.int (k : Int))] := by
      rw [Int.zero_add]; rfl
    have r := raised_all T one two txt (fm_int a1 a2) (fm_int b1 b2) (fm_str t1) t2 k hk
    have t : (tyNot (eTest (eFnF (m_law_raised T) (aCons (eVar 4) (aCons (eVar 1) (aCons (eVar 2) (aCons (eVar 3) aNil))))))) [.v 0 (rl ns), .v 0 (.int one), .v 0 (.int two), .v 0 (.str txt), .v 0 (.int (k : Int))] = .ok (!true) :=
      tnot_ok (test_ok (fnF_ok (aC_ok (var_ok rfl) (aC_ok (var_ok rfl) (aC_ok (var_ok rfl) (aC_ok (var_ok rfl) rfl)))) r rfl))
    have q : c_law_1 T [.v 0 (rl ns), .v 0 (.int one), .v 0 (.int two), .v 0 (.str txt), .v 0 (.int (k : Int))] = .nx [.v 0 (rl ns), .v 0 (.int one), .v 0 (.int two), .v 0 (.str txt), .v 0 (.int (k : Int))] := by
      unfold c_law_1
      exact (if_f t).trans rfl
    exact ⟨_, .inl ((step_eq se).trans q), _, rfl⟩)
  subst h2
  unfold m_law c_law
  exact fn_rt rfl rfl ((seq_nx s1).trans ((seq_nx s2).trans ((seq_nx s3).trans ((seq_nx ((for_rng (aOne c_ok) (by decide)).trans h1)).trans (ret_ok (own0_ok c_ok))))))
end K70

namespace K70
open PySem L2 Mv
section
variable {P : Program} {w : World} {K : PySem.W.Frag} {h : Heap} {mg : Str → Option Value} {fa : Addr}
theorem all_mk (X : K.In h) (G : h.Ns mainGlobals mg) (hfa : mg "law" = some (.ref fa))
    {f_law_cell : Addr} {od_law_cell an_law_cell : Option Addr} {sl_law_cell : Array (Option Value)} {oc_law_cell kV_law_cell dc_law_cell pm_law_cell cd_law_cell ct_law_cell : Value}
    {f_law_digits : Addr} {od_law_digits an_law_digits : Option Addr} {sl_law_digits : Array (Option Value)} {oc_law_digits kV_law_digits dc_law_digits pm_law_digits cd_law_digits ct_law_digits : Value}
    {f_law_seed : Addr} {od_law_seed an_law_seed : Option Addr} {sl_law_seed : Array (Option Value)} {oc_law_seed kV_law_seed dc_law_seed pm_law_seed cd_law_seed ct_law_seed : Value}
    {f_law_is_int : Addr} {od_law_is_int an_law_is_int : Option Addr} {sl_law_is_int : Array (Option Value)} {oc_law_is_int kV_law_is_int dc_law_is_int pm_law_is_int cd_law_is_int ct_law_is_int : Value}
    {f_law_first : Addr} {od_law_first an_law_first : Option Addr} {sl_law_first : Array (Option Value)} {oc_law_first kV_law_first dc_law_first pm_law_first cd_law_first ct_law_first : Value}
    {f_law_second : Addr} {od_law_second an_law_second : Option Addr} {sl_law_second : Array (Option Value)} {oc_law_second kV_law_second dc_law_second pm_law_second cd_law_second ct_law_second : Value}
    {f_law_kinds : Addr} {od_law_kinds an_law_kinds : Option Addr} {sl_law_kinds : Array (Option Value)} {oc_law_kinds kV_law_kinds dc_law_kinds pm_law_kinds cd_law_kinds ct_law_kinds : Value}
    {f_law_fields : Addr} {od_law_fields an_law_fields : Option Addr} {sl_law_fields : Array (Option Value)} {oc_law_fields kV_law_fields dc_law_fields pm_law_fields cd_law_fields ct_law_fields : Value}
    {f_law_due : Addr} {od_law_due an_law_due : Option Addr} {sl_law_due : Array (Option Value)} {oc_law_due kV_law_due dc_law_due pm_law_due cd_law_due ct_law_due : Value}
    {f_law_same : Addr} {od_law_same an_law_same : Option Addr} {sl_law_same : Array (Option Value)} {oc_law_same kV_law_same dc_law_same pm_law_same cd_law_same ct_law_same : Value}
    {f_law_raised : Addr} {od_law_raised an_law_raised : Option Addr} {sl_law_raised : Array (Option Value)} {oc_law_raised kV_law_raised dc_law_raised pm_law_raised cd_law_raised ct_law_raised : Value}
    {f_law_number : Addr} {od_law_number an_law_number : Option Addr} {sl_law_number : Array (Option Value)} {oc_law_number kV_law_number dc_law_number pm_law_number cd_law_number ct_law_number : Value}
    {f_law_text : Addr} {od_law_text an_law_text : Option Addr} {sl_law_text : Array (Option Value)} {oc_law_text kV_law_text dc_law_text pm_law_text cd_law_text ct_law_text : Value}
    {f_law : Addr} {od_law an_law : Option Addr} {sl_law : Array (Option Value)} {oc_law kV_law dc_law pm_law cd_law ct_law : Value}
    {C_BadChange : Addr}
    {C_BadDoors : Addr}
    {C_BadJournal : Addr}
    {C_BadLine : Addr}
    {C_BadName : Addr}
    {C_BadNode : Addr}
    {C_BadOrder : Addr}
    {C_BadPolicy : Addr}
    {C_BadRing : Addr}
    {C_BadRun : Addr}
    {C_BadStart : Addr}
    {C_BadStay : Addr}
    {C_BadWord : Addr}
    {C_BareLoop : Addr}
    {C_DeskError : Addr}
    {C_DuplicateMark : Addr}
    {C_ForeworthError : Addr}
    {C_Incomplete : Addr}
    {C_Misplaced : Addr}
    {C_MixedGraphs : Addr}
    {C_NameTaken : Addr}
    {C_NoEnd : Addr}
    {C_NoMark : Addr}
    {C_NoProgram : Addr}
    {C_NoTeam : Addr}
    {C_NoWild : Addr}
    {C_NotOver : Addr}
    {C_NotStanding : Addr}
    {C_NothingToRedo : Addr}
    {C_NothingToUndo : Addr}
    {C_TextError : Addr}
    {C_TooDeep : Addr}
    {C_TooLarge : Addr}
    {C_Unclosed : Addr}
    {C_Unending : Addr}
    {C_Unreachable : Addr}
    {C_WildProgram : Addr}
    {fi_BadChange cc_BadChange ca_BadChange : Addr} {odi_BadChange ani_BadChange cdd_BadChange cld_BadChange : Option Addr} {sli_BadChange ccs_BadChange csl_BadChange : Array (Option Value)} {oci_BadChange kVi_BadChange dci_BadChange pmi_BadChange cti_BadChange ccl_BadChange ce0_BadChange : Value} {vs_BadChange : Array Value} {file_BadChange : Str} {tf_BadChange : Tok}
    {fi_BadJournal cc_BadJournal ca_BadJournal : Addr} {odi_BadJournal ani_BadJournal cdd_BadJournal cld_BadJournal : Option Addr} {sli_BadJournal ccs_BadJournal csl_BadJournal : Array (Option Value)} {oci_BadJournal kVi_BadJournal dci_BadJournal pmi_BadJournal cti_BadJournal ccl_BadJournal ce0_BadJournal : Value} {vs_BadJournal : Array Value} {file_BadJournal : Str} {tf_BadJournal : Tok}
    {fi_BadName cc_BadName ca_BadName : Addr} {odi_BadName ani_BadName cdd_BadName cld_BadName : Option Addr} {sli_BadName ccs_BadName csl_BadName : Array (Option Value)} {oci_BadName kVi_BadName dci_BadName pmi_BadName cti_BadName ccl_BadName ce0_BadName : Value} {vs_BadName : Array Value} {file_BadName : Str} {tf_BadName : Tok}
    {fi_BadNode cc_BadNode ca_BadNode : Addr} {odi_BadNode ani_BadNode cdd_BadNode cld_BadNode : Option Addr} {sli_BadNode ccs_BadNode csl_BadNode : Array (Option Value)} {oci_BadNode kVi_BadNode dci_BadNode pmi_BadNode cti_BadNode ccl_BadNode ce0_BadNode : Value} {vs_BadNode : Array Value} {file_BadNode : Str} {tf_BadNode : Tok}
    {fi_BadPolicy cc_BadPolicy ca_BadPolicy : Addr} {odi_BadPolicy ani_BadPolicy cdd_BadPolicy cld_BadPolicy : Option Addr} {sli_BadPolicy ccs_BadPolicy csl_BadPolicy : Array (Option Value)} {oci_BadPolicy kVi_BadPolicy dci_BadPolicy pmi_BadPolicy cti_BadPolicy ccl_BadPolicy ce0_BadPolicy : Value} {vs_BadPolicy : Array Value} {file_BadPolicy : Str} {tf_BadPolicy : Tok}
    {fi_BadRun cc_BadRun ca_BadRun : Addr} {odi_BadRun ani_BadRun cdd_BadRun cld_BadRun : Option Addr} {sli_BadRun ccs_BadRun csl_BadRun : Array (Option Value)} {oci_BadRun kVi_BadRun dci_BadRun pmi_BadRun cti_BadRun ccl_BadRun ce0_BadRun : Value} {vs_BadRun : Array Value} {file_BadRun : Str} {tf_BadRun : Tok}
    {fi_BadStay cc_BadStay ca_BadStay : Addr} {odi_BadStay ani_BadStay cdd_BadStay cld_BadStay : Option Addr} {sli_BadStay ccs_BadStay csl_BadStay : Array (Option Value)} {oci_BadStay kVi_BadStay dci_BadStay pmi_BadStay cti_BadStay ccl_BadStay ce0_BadStay : Value} {vs_BadStay : Array Value} {file_BadStay : Str} {tf_BadStay : Tok}
    {fi_BareLoop cc_BareLoop ca_BareLoop : Addr} {odi_BareLoop ani_BareLoop cdd_BareLoop cld_BareLoop : Option Addr} {sli_BareLoop ccs_BareLoop csl_BareLoop : Array (Option Value)} {oci_BareLoop kVi_BareLoop dci_BareLoop pmi_BareLoop cti_BareLoop ccl_BareLoop ce0_BareLoop : Value} {vs_BareLoop : Array Value} {file_BareLoop : Str} {tf_BareLoop : Tok}
    {fi_NameTaken cc_NameTaken ca_NameTaken : Addr} {odi_NameTaken ani_NameTaken cdd_NameTaken cld_NameTaken : Option Addr} {sli_NameTaken ccs_NameTaken csl_NameTaken : Array (Option Value)} {oci_NameTaken kVi_NameTaken dci_NameTaken pmi_NameTaken cti_NameTaken ccl_NameTaken ce0_NameTaken : Value} {vs_NameTaken : Array Value} {file_NameTaken : Str} {tf_NameTaken : Tok}
    {fi_NoEnd cc_NoEnd ca_NoEnd : Addr} {odi_NoEnd ani_NoEnd cdd_NoEnd cld_NoEnd : Option Addr} {sli_NoEnd ccs_NoEnd csl_NoEnd : Array (Option Value)} {oci_NoEnd kVi_NoEnd dci_NoEnd pmi_NoEnd cti_NoEnd ccl_NoEnd ce0_NoEnd : Value} {vs_NoEnd : Array Value} {file_NoEnd : Str} {tf_NoEnd : Tok}
    {fi_NoProgram cc_NoProgram ca_NoProgram : Addr} {odi_NoProgram ani_NoProgram cdd_NoProgram cld_NoProgram : Option Addr} {sli_NoProgram ccs_NoProgram csl_NoProgram : Array (Option Value)} {oci_NoProgram kVi_NoProgram dci_NoProgram pmi_NoProgram cti_NoProgram ccl_NoProgram ce0_NoProgram : Value} {vs_NoProgram : Array Value} {file_NoProgram : Str} {tf_NoProgram : Tok}
    {fi_NoTeam cc_NoTeam ca_NoTeam : Addr} {odi_NoTeam ani_NoTeam cdd_NoTeam cld_NoTeam : Option Addr} {sli_NoTeam ccs_NoTeam csl_NoTeam : Array (Option Value)} {oci_NoTeam kVi_NoTeam dci_NoTeam pmi_NoTeam cti_NoTeam ccl_NoTeam ce0_NoTeam : Value} {vs_NoTeam : Array Value} {file_NoTeam : Str} {tf_NoTeam : Tok}
    {fi_NotStanding cc_NotStanding ca_NotStanding : Addr} {odi_NotStanding ani_NotStanding cdd_NotStanding cld_NotStanding : Option Addr} {sli_NotStanding ccs_NotStanding csl_NotStanding : Array (Option Value)} {oci_NotStanding kVi_NotStanding dci_NotStanding pmi_NotStanding cti_NotStanding ccl_NotStanding ce0_NotStanding : Value} {vs_NotStanding : Array Value} {file_NotStanding : Str} {tf_NotStanding : Tok}
    {fi_TextError cc_TextError ca_TextError : Addr} {odi_TextError ani_TextError cdd_TextError cld_TextError : Option Addr} {sli_TextError ccs_TextError csl_TextError : Array (Option Value)} {oci_TextError kVi_TextError dci_TextError pmi_TextError cti_TextError ccl_TextError ce0_TextError : Value} {vs_TextError : Array Value} {file_TextError : Str} {tf_TextError : Tok}
    {fi_Unending cc_Unending ca_Unending : Addr} {odi_Unending ani_Unending cdd_Unending cld_Unending : Option Addr} {sli_Unending ccs_Unending csl_Unending : Array (Option Value)} {oci_Unending kVi_Unending dci_Unending pmi_Unending cti_Unending ccl_Unending ce0_Unending : Value} {vs_Unending : Array Value} {file_Unending : Str} {tf_Unending : Tok}
    {fi_Unreachable cc_Unreachable ca_Unreachable : Addr} {odi_Unreachable ani_Unreachable cdd_Unreachable cld_Unreachable : Option Addr} {sli_Unreachable ccs_Unreachable csl_Unreachable : Array (Option Value)} {oci_Unreachable kVi_Unreachable dci_Unreachable pmi_Unreachable cti_Unreachable ccl_Unreachable ce0_Unreachable : Value} {vs_Unreachable : Array Value} {file_Unreachable : Str} {tf_Unreachable : Tok}
    {fi_WildProgram cc_WildProgram ca_WildProgram : Addr} {odi_WildProgram ani_WildProgram cdd_WildProgram cld_WildProgram : Option Addr} {sli_WildProgram ccs_WildProgram csl_WildProgram : Array (Option Value)} {oci_WildProgram kVi_WildProgram dci_WildProgram pmi_WildProgram cti_WildProgram ccl_WildProgram ce0_WildProgram : Value} {vs_WildProgram : Array Value} {file_WildProgram : Str} {tf_WildProgram : Tok}
    (a_law_cell : PySem.W.nsIn K mainGlobals "_law_cell" = some (some (.ref f_law_cell)))
    (l_law_cell : K.lookup f_law_cell = some ⟨oc_law_cell, od_law_cell, .func (PySem.W.fnOf "_law_cell" "_law_cell" (defArgs s_law_cell) (defBody s_law_cell) (defScope s_law_cell) .none kV_law_cell dc_law_cell pm_law_cell an_law_cell cd_law_cell ct_law_cell), sl_law_cell⟩)
    (c_law_cell : PySem.W.codeIn K cd_law_cell "_law_cell" = true)
    (k_law_cell : PySem.W.keepIn K (.ref f_law_cell) = true)
    (a_law_digits : PySem.W.nsIn K mainGlobals "_law_digits" = some (some (.ref f_law_digits)))
    (l_law_digits : K.lookup f_law_digits = some ⟨oc_law_digits, od_law_digits, .func (PySem.W.fnOf "_law_digits" "_law_digits" (defArgs s_law_digits) (defBody s_law_digits) (defScope s_law_digits) .none kV_law_digits dc_law_digits pm_law_digits an_law_digits cd_law_digits ct_law_digits), sl_law_digits⟩)
    (c_law_digits : PySem.W.codeIn K cd_law_digits "_law_digits" = true)
    (k_law_digits : PySem.W.keepIn K (.ref f_law_digits) = true)
    (a_law_seed : PySem.W.nsIn K mainGlobals "_law_seed" = some (some (.ref f_law_seed)))
    (l_law_seed : K.lookup f_law_seed = some ⟨oc_law_seed, od_law_seed, .func (PySem.W.fnOf "_law_seed" "_law_seed" (defArgs s_law_seed) (defBody s_law_seed) (defScope s_law_seed) .none kV_law_seed dc_law_seed pm_law_seed an_law_seed cd_law_seed ct_law_seed), sl_law_seed⟩)
    (c_law_seed : PySem.W.codeIn K cd_law_seed "_law_seed" = true)
    (k_law_seed : PySem.W.keepIn K (.ref f_law_seed) = true)
    (a_law_is_int : PySem.W.nsIn K mainGlobals "_law_is_int" = some (some (.ref f_law_is_int)))
    (l_law_is_int : K.lookup f_law_is_int = some ⟨oc_law_is_int, od_law_is_int, .func (PySem.W.fnOf "_law_is_int" "_law_is_int" (defArgs s_law_is_int) (defBody s_law_is_int) (defScope s_law_is_int) .none kV_law_is_int dc_law_is_int pm_law_is_int an_law_is_int cd_law_is_int ct_law_is_int), sl_law_is_int⟩)
    (c_law_is_int : PySem.W.codeIn K cd_law_is_int "_law_is_int" = true)
    (k_law_is_int : PySem.W.keepIn K (.ref f_law_is_int) = true)
    (a_law_first : PySem.W.nsIn K mainGlobals "_law_first" = some (some (.ref f_law_first)))
    (l_law_first : K.lookup f_law_first = some ⟨oc_law_first, od_law_first, .func (PySem.W.fnOf "_law_first" "_law_first" (defArgs s_law_first) (defBody s_law_first) (defScope s_law_first) .none kV_law_first dc_law_first pm_law_first an_law_first cd_law_first ct_law_first), sl_law_first⟩)
    (c_law_first : PySem.W.codeIn K cd_law_first "_law_first" = true)
    (k_law_first : PySem.W.keepIn K (.ref f_law_first) = true)
    (a_law_second : PySem.W.nsIn K mainGlobals "_law_second" = some (some (.ref f_law_second)))
    (l_law_second : K.lookup f_law_second = some ⟨oc_law_second, od_law_second, .func (PySem.W.fnOf "_law_second" "_law_second" (defArgs s_law_second) (defBody s_law_second) (defScope s_law_second) .none kV_law_second dc_law_second pm_law_second an_law_second cd_law_second ct_law_second), sl_law_second⟩)
    (c_law_second : PySem.W.codeIn K cd_law_second "_law_second" = true)
    (k_law_second : PySem.W.keepIn K (.ref f_law_second) = true)
    (a_law_kinds : PySem.W.nsIn K mainGlobals "_law_kinds" = some (some (.ref f_law_kinds)))
    (l_law_kinds : K.lookup f_law_kinds = some ⟨oc_law_kinds, od_law_kinds, .func (PySem.W.fnOf "_law_kinds" "_law_kinds" (defArgs s_law_kinds) (defBody s_law_kinds) (defScope s_law_kinds) .none kV_law_kinds dc_law_kinds pm_law_kinds an_law_kinds cd_law_kinds ct_law_kinds), sl_law_kinds⟩)
    (c_law_kinds : PySem.W.codeIn K cd_law_kinds "_law_kinds" = true)
    (k_law_kinds : PySem.W.keepIn K (.ref f_law_kinds) = true)
    (a_law_fields : PySem.W.nsIn K mainGlobals "_law_fields" = some (some (.ref f_law_fields)))
    (l_law_fields : K.lookup f_law_fields = some ⟨oc_law_fields, od_law_fields, .func (PySem.W.fnOf "_law_fields" "_law_fields" (defArgs s_law_fields) (defBody s_law_fields) (defScope s_law_fields) .none kV_law_fields dc_law_fields pm_law_fields an_law_fields cd_law_fields ct_law_fields), sl_law_fields⟩)
    (c_law_fields : PySem.W.codeIn K cd_law_fields "_law_fields" = true)
    (k_law_fields : PySem.W.keepIn K (.ref f_law_fields) = true)
    (a_law_due : PySem.W.nsIn K mainGlobals "_law_due" = some (some (.ref f_law_due)))
    (l_law_due : K.lookup f_law_due = some ⟨oc_law_due, od_law_due, .func (PySem.W.fnOf "_law_due" "_law_due" (defArgs s_law_due) (defBody s_law_due) (defScope s_law_due) .none kV_law_due dc_law_due pm_law_due an_law_due cd_law_due ct_law_due), sl_law_due⟩)
    (c_law_due : PySem.W.codeIn K cd_law_due "_law_due" = true)
    (k_law_due : PySem.W.keepIn K (.ref f_law_due) = true)
    (a_law_same : PySem.W.nsIn K mainGlobals "_law_same" = some (some (.ref f_law_same)))
    (l_law_same : K.lookup f_law_same = some ⟨oc_law_same, od_law_same, .func (PySem.W.fnOf "_law_same" "_law_same" (defArgs s_law_same) (defBody s_law_same) (defScope s_law_same) .none kV_law_same dc_law_same pm_law_same an_law_same cd_law_same ct_law_same), sl_law_same⟩)
    (c_law_same : PySem.W.codeIn K cd_law_same "_law_same" = true)
    (k_law_same : PySem.W.keepIn K (.ref f_law_same) = true)
    (a_law_raised : PySem.W.nsIn K mainGlobals "_law_raised" = some (some (.ref f_law_raised)))
    (l_law_raised : K.lookup f_law_raised = some ⟨oc_law_raised, od_law_raised, .func (PySem.W.fnOf "_law_raised" "_law_raised" (defArgs s_law_raised) (defBody s_law_raised) (defScope s_law_raised) .none kV_law_raised dc_law_raised pm_law_raised an_law_raised cd_law_raised ct_law_raised), sl_law_raised⟩)
    (c_law_raised : PySem.W.codeIn K cd_law_raised "_law_raised" = true)
    (k_law_raised : PySem.W.keepIn K (.ref f_law_raised) = true)
    (a_law_number : PySem.W.nsIn K mainGlobals "_law_number" = some (some (.ref f_law_number)))
    (l_law_number : K.lookup f_law_number = some ⟨oc_law_number, od_law_number, .func (PySem.W.fnOf "_law_number" "_law_number" (defArgs s_law_number) (defBody s_law_number) (defScope s_law_number) .none kV_law_number dc_law_number pm_law_number an_law_number cd_law_number ct_law_number), sl_law_number⟩)
    (c_law_number : PySem.W.codeIn K cd_law_number "_law_number" = true)
    (k_law_number : PySem.W.keepIn K (.ref f_law_number) = true)
    (a_law_text : PySem.W.nsIn K mainGlobals "_law_text" = some (some (.ref f_law_text)))
    (l_law_text : K.lookup f_law_text = some ⟨oc_law_text, od_law_text, .func (PySem.W.fnOf "_law_text" "_law_text" (defArgs s_law_text) (defBody s_law_text) (defScope s_law_text) .none kV_law_text dc_law_text pm_law_text an_law_text cd_law_text ct_law_text), sl_law_text⟩)
    (c_law_text : PySem.W.codeIn K cd_law_text "_law_text" = true)
    (k_law_text : PySem.W.keepIn K (.ref f_law_text) = true)
    (a_law : PySem.W.nsIn K mainGlobals "law" = some (some (.ref f_law)))
    (l_law : K.lookup f_law = some ⟨oc_law, od_law, .func (PySem.W.fnOf "law" "law" (defArgs s_law) (defBody s_law) (defScope s_law) .none kV_law dc_law pm_law an_law cd_law ct_law), sl_law⟩)
    (c_law : PySem.W.codeIn K cd_law "law" = true)
    (k_law : PySem.W.keepIn K (.ref f_law) = true)
    (z_len : PySem.W.nsIn K mainGlobals "len" = some none)
    (z_abs : PySem.W.nsIn K mainGlobals "abs" = some none)
    (z_int : PySem.W.nsIn K mainGlobals "int" = some none)
    (z_range : PySem.W.nsIn K mainGlobals "range" = some none)
    (z_isinstance : PySem.W.nsIn K mainGlobals "isinstance" = some none)
    (z_bool : PySem.W.nsIn K mainGlobals "bool" = some none)
    (z_str : PySem.W.nsIn K mainGlobals "str" = some none)
    (z_ValueError : PySem.W.nsIn K mainGlobals "ValueError" = some none)
    (z_super : PySem.W.nsIn K mainGlobals "super" = some none)
    (aC_BadChange : PySem.W.nsIn K mainGlobals "BadChange" = some (some (.ref C_BadChange)))
    (aC_BadDoors : PySem.W.nsIn K mainGlobals "BadDoors" = some (some (.ref C_BadDoors)))
    (aC_BadJournal : PySem.W.nsIn K mainGlobals "BadJournal" = some (some (.ref C_BadJournal)))
    (aC_BadLine : PySem.W.nsIn K mainGlobals "BadLine" = some (some (.ref C_BadLine)))
    (aC_BadName : PySem.W.nsIn K mainGlobals "BadName" = some (some (.ref C_BadName)))
    (aC_BadNode : PySem.W.nsIn K mainGlobals "BadNode" = some (some (.ref C_BadNode)))
    (aC_BadOrder : PySem.W.nsIn K mainGlobals "BadOrder" = some (some (.ref C_BadOrder)))
    (aC_BadPolicy : PySem.W.nsIn K mainGlobals "BadPolicy" = some (some (.ref C_BadPolicy)))
    (aC_BadRing : PySem.W.nsIn K mainGlobals "BadRing" = some (some (.ref C_BadRing)))
    (aC_BadRun : PySem.W.nsIn K mainGlobals "BadRun" = some (some (.ref C_BadRun)))
    (aC_BadStart : PySem.W.nsIn K mainGlobals "BadStart" = some (some (.ref C_BadStart)))
    (aC_BadStay : PySem.W.nsIn K mainGlobals "BadStay" = some (some (.ref C_BadStay)))
    (aC_BadWord : PySem.W.nsIn K mainGlobals "BadWord" = some (some (.ref C_BadWord)))
    (aC_BareLoop : PySem.W.nsIn K mainGlobals "BareLoop" = some (some (.ref C_BareLoop)))
    (aC_DeskError : PySem.W.nsIn K mainGlobals "DeskError" = some (some (.ref C_DeskError)))
    (aC_DuplicateMark : PySem.W.nsIn K mainGlobals "DuplicateMark" = some (some (.ref C_DuplicateMark)))
    (aC_ForeworthError : PySem.W.nsIn K mainGlobals "ForeworthError" = some (some (.ref C_ForeworthError)))
    (aC_Incomplete : PySem.W.nsIn K mainGlobals "Incomplete" = some (some (.ref C_Incomplete)))
    (aC_Misplaced : PySem.W.nsIn K mainGlobals "Misplaced" = some (some (.ref C_Misplaced)))
    (aC_MixedGraphs : PySem.W.nsIn K mainGlobals "MixedGraphs" = some (some (.ref C_MixedGraphs)))
    (aC_NameTaken : PySem.W.nsIn K mainGlobals "NameTaken" = some (some (.ref C_NameTaken)))
    (aC_NoEnd : PySem.W.nsIn K mainGlobals "NoEnd" = some (some (.ref C_NoEnd)))
    (aC_NoMark : PySem.W.nsIn K mainGlobals "NoMark" = some (some (.ref C_NoMark)))
    (aC_NoProgram : PySem.W.nsIn K mainGlobals "NoProgram" = some (some (.ref C_NoProgram)))
    (aC_NoTeam : PySem.W.nsIn K mainGlobals "NoTeam" = some (some (.ref C_NoTeam)))
    (aC_NoWild : PySem.W.nsIn K mainGlobals "NoWild" = some (some (.ref C_NoWild)))
    (aC_NotOver : PySem.W.nsIn K mainGlobals "NotOver" = some (some (.ref C_NotOver)))
    (aC_NotStanding : PySem.W.nsIn K mainGlobals "NotStanding" = some (some (.ref C_NotStanding)))
    (aC_NothingToRedo : PySem.W.nsIn K mainGlobals "NothingToRedo" = some (some (.ref C_NothingToRedo)))
    (aC_NothingToUndo : PySem.W.nsIn K mainGlobals "NothingToUndo" = some (some (.ref C_NothingToUndo)))
    (aC_TextError : PySem.W.nsIn K mainGlobals "TextError" = some (some (.ref C_TextError)))
    (aC_TooDeep : PySem.W.nsIn K mainGlobals "TooDeep" = some (some (.ref C_TooDeep)))
    (aC_TooLarge : PySem.W.nsIn K mainGlobals "TooLarge" = some (some (.ref C_TooLarge)))
    (aC_Unclosed : PySem.W.nsIn K mainGlobals "Unclosed" = some (some (.ref C_Unclosed)))
    (aC_Unending : PySem.W.nsIn K mainGlobals "Unending" = some (some (.ref C_Unending)))
    (aC_Unreachable : PySem.W.nsIn K mainGlobals "Unreachable" = some (some (.ref C_Unreachable)))
    (aC_WildProgram : PySem.W.nsIn K mainGlobals "WildProgram" = some (some (.ref C_WildProgram)))
    (fI_BadChange : PySem.W.findIn K (.ref C_BadChange) "__init__" = some (some (.ref fi_BadChange)))
    (li_BadChange : K.lookup fi_BadChange = some ⟨oci_BadChange, odi_BadChange, .func (PySem.W.fnX "__init__" "BadChange.__init__" (defArgs i_BadChange) (defBody i_BadChange) (defScope i_BadChange) [(("__class__" : Str), cc_BadChange)] .none kVi_BadChange dci_BadChange pmi_BadChange ani_BadChange (.ref ca_BadChange) cti_BadChange), sli_BadChange⟩)
    (ci_BadChange : PySem.W.codeIn K (.ref ca_BadChange) "BadChange.__init__" = true)
    (co_BadChange : K.lookup ca_BadChange = some ⟨ccl_BadChange, cdd_BadChange, .fields vs_BadChange, ccs_BadChange⟩)
    (v2_BadChange : vs_BadChange[2]? = some (.str file_BadChange tf_BadChange))
    (fm_BadChange : ((P.main.file : Str) == file_BadChange) = true)
    (ce_BadChange : K.lookup cc_BadChange = some ⟨ce0_BadChange, cld_BadChange, .cell (some (.ref C_BadChange)), csl_BadChange⟩)
    (iC_BadChange : PySem.W.isClsIn K C_BadChange = true)
    (tI_BadChange : PySem.W.typeIn K (.ref fi_BadChange) = some (.type "function"))
    (fI_BadJournal : PySem.W.findIn K (.ref C_BadJournal) "__init__" = some (some (.ref fi_BadJournal)))
    (li_BadJournal : K.lookup fi_BadJournal = some ⟨oci_BadJournal, odi_BadJournal, .func (PySem.W.fnX "__init__" "BadJournal.__init__" (defArgs i_BadJournal) (defBody i_BadJournal) (defScope i_BadJournal) [(("__class__" : Str), cc_BadJournal)] .none kVi_BadJournal dci_BadJournal pmi_BadJournal ani_BadJournal (.ref ca_BadJournal) cti_BadJournal), sli_BadJournal⟩)
    (ci_BadJournal : PySem.W.codeIn K (.ref ca_BadJournal) "BadJournal.__init__" = true)
    (co_BadJournal : K.lookup ca_BadJournal = some ⟨ccl_BadJournal, cdd_BadJournal, .fields vs_BadJournal, ccs_BadJournal⟩)
    (v2_BadJournal : vs_BadJournal[2]? = some (.str file_BadJournal tf_BadJournal))
    (fm_BadJournal : ((P.main.file : Str) == file_BadJournal) = true)
    (ce_BadJournal : K.lookup cc_BadJournal = some ⟨ce0_BadJournal, cld_BadJournal, .cell (some (.ref C_BadJournal)), csl_BadJournal⟩)
    (iC_BadJournal : PySem.W.isClsIn K C_BadJournal = true)
    (tI_BadJournal : PySem.W.typeIn K (.ref fi_BadJournal) = some (.type "function"))
    (fI_BadName : PySem.W.findIn K (.ref C_BadName) "__init__" = some (some (.ref fi_BadName)))
    (li_BadName : K.lookup fi_BadName = some ⟨oci_BadName, odi_BadName, .func (PySem.W.fnX "__init__" "BadName.__init__" (defArgs i_BadName) (defBody i_BadName) (defScope i_BadName) [(("__class__" : Str), cc_BadName)] .none kVi_BadName dci_BadName pmi_BadName ani_BadName (.ref ca_BadName) cti_BadName), sli_BadName⟩)
    (ci_BadName : PySem.W.codeIn K (.ref ca_BadName) "BadName.__init__" = true)
    (co_BadName : K.lookup ca_BadName = some ⟨ccl_BadName, cdd_BadName, .fields vs_BadName, ccs_BadName⟩)
    (v2_BadName : vs_BadName[2]? = some (.str file_BadName tf_BadName))
    (fm_BadName : ((P.main.file : Str) == file_BadName) = true)
    (ce_BadName : K.lookup cc_BadName = some ⟨ce0_BadName, cld_BadName, .cell (some (.ref C_BadName)), csl_BadName⟩)
    (iC_BadName : PySem.W.isClsIn K C_BadName = true)
    (tI_BadName : PySem.W.typeIn K (.ref fi_BadName) = some (.type "function"))
    (fI_BadNode : PySem.W.findIn K (.ref C_BadNode) "__init__" = some (some (.ref fi_BadNode)))
    (li_BadNode : K.lookup fi_BadNode = some ⟨oci_BadNode, odi_BadNode, .func (PySem.W.fnX "__init__" "BadNode.__init__" (defArgs i_BadNode) (defBody i_BadNode) (defScope i_BadNode) [(("__class__" : Str), cc_BadNode)] .none kVi_BadNode dci_BadNode pmi_BadNode ani_BadNode (.ref ca_BadNode) cti_BadNode), sli_BadNode⟩)
    (ci_BadNode : PySem.W.codeIn K (.ref ca_BadNode) "BadNode.__init__" = true)
    (co_BadNode : K.lookup ca_BadNode = some ⟨ccl_BadNode, cdd_BadNode, .fields vs_BadNode, ccs_BadNode⟩)
    (v2_BadNode : vs_BadNode[2]? = some (.str file_BadNode tf_BadNode))
    (fm_BadNode : ((P.main.file : Str) == file_BadNode) = true)
    (ce_BadNode : K.lookup cc_BadNode = some ⟨ce0_BadNode, cld_BadNode, .cell (some (.ref C_BadNode)), csl_BadNode⟩)
    (iC_BadNode : PySem.W.isClsIn K C_BadNode = true)
    (tI_BadNode : PySem.W.typeIn K (.ref fi_BadNode) = some (.type "function"))
    (fI_BadPolicy : PySem.W.findIn K (.ref C_BadPolicy) "__init__" = some (some (.ref fi_BadPolicy)))
    (li_BadPolicy : K.lookup fi_BadPolicy = some ⟨oci_BadPolicy, odi_BadPolicy, .func (PySem.W.fnX "__init__" "BadPolicy.__init__" (defArgs i_BadPolicy) (defBody i_BadPolicy) (defScope i_BadPolicy) [(("__class__" : Str), cc_BadPolicy)] .none kVi_BadPolicy dci_BadPolicy pmi_BadPolicy ani_BadPolicy (.ref ca_BadPolicy) cti_BadPolicy), sli_BadPolicy⟩)
    (ci_BadPolicy : PySem.W.codeIn K (.ref ca_BadPolicy) "BadPolicy.__init__" = true)
    (co_BadPolicy : K.lookup ca_BadPolicy = some ⟨ccl_BadPolicy, cdd_BadPolicy, .fields vs_BadPolicy, ccs_BadPolicy⟩)
    (v2_BadPolicy : vs_BadPolicy[2]? = some (.str file_BadPolicy tf_BadPolicy))
    (fm_BadPolicy : ((P.main.file : Str) == file_BadPolicy) = true)
    (ce_BadPolicy : K.lookup cc_BadPolicy = some ⟨ce0_BadPolicy, cld_BadPolicy, .cell (some (.ref C_BadPolicy)), csl_BadPolicy⟩)
    (iC_BadPolicy : PySem.W.isClsIn K C_BadPolicy = true)
    (tI_BadPolicy : PySem.W.typeIn K (.ref fi_BadPolicy) = some (.type "function"))
    (fI_BadRun : PySem.W.findIn K (.ref C_BadRun) "__init__" = some (some (.ref fi_BadRun)))
    (li_BadRun : K.lookup fi_BadRun = some ⟨oci_BadRun, odi_BadRun, .func (PySem.W.fnX "__init__" "BadRun.__init__" (defArgs i_BadRun) (defBody i_BadRun) (defScope i_BadRun) [(("__class__" : Str), cc_BadRun)] .none kVi_BadRun dci_BadRun pmi_BadRun ani_BadRun (.ref ca_BadRun) cti_BadRun), sli_BadRun⟩)
    (ci_BadRun : PySem.W.codeIn K (.ref ca_BadRun) "BadRun.__init__" = true)
    (co_BadRun : K.lookup ca_BadRun = some ⟨ccl_BadRun, cdd_BadRun, .fields vs_BadRun, ccs_BadRun⟩)
    (v2_BadRun : vs_BadRun[2]? = some (.str file_BadRun tf_BadRun))
    (fm_BadRun : ((P.main.file : Str) == file_BadRun) = true)
    (ce_BadRun : K.lookup cc_BadRun = some ⟨ce0_BadRun, cld_BadRun, .cell (some (.ref C_BadRun)), csl_BadRun⟩)
    (iC_BadRun : PySem.W.isClsIn K C_BadRun = true)
    (tI_BadRun : PySem.W.typeIn K (.ref fi_BadRun) = some (.type "function"))
    (fI_BadStay : PySem.W.findIn K (.ref C_BadStay) "__init__" = some (some (.ref fi_BadStay)))
    (li_BadStay : K.lookup fi_BadStay = some ⟨oci_BadStay, odi_BadStay, .func (PySem.W.fnX "__init__" "BadStay.__init__" (defArgs i_BadStay) (defBody i_BadStay) (defScope i_BadStay) [(("__class__" : Str), cc_BadStay)] .none kVi_BadStay dci_BadStay pmi_BadStay ani_BadStay (.ref ca_BadStay) cti_BadStay), sli_BadStay⟩)
    (ci_BadStay : PySem.W.codeIn K (.ref ca_BadStay) "BadStay.__init__" = true)
    (co_BadStay : K.lookup ca_BadStay = some ⟨ccl_BadStay, cdd_BadStay, .fields vs_BadStay, ccs_BadStay⟩)
    (v2_BadStay : vs_BadStay[2]? = some (.str file_BadStay tf_BadStay))
    (fm_BadStay : ((P.main.file : Str) == file_BadStay) = true)
    (ce_BadStay : K.lookup cc_BadStay = some ⟨ce0_BadStay, cld_BadStay, .cell (some (.ref C_BadStay)), csl_BadStay⟩)
    (iC_BadStay : PySem.W.isClsIn K C_BadStay = true)
    (tI_BadStay : PySem.W.typeIn K (.ref fi_BadStay) = some (.type "function"))
    (fI_BareLoop : PySem.W.findIn K (.ref C_BareLoop) "__init__" = some (some (.ref fi_BareLoop)))
    (li_BareLoop : K.lookup fi_BareLoop = some ⟨oci_BareLoop, odi_BareLoop, .func (PySem.W.fnX "__init__" "BareLoop.__init__" (defArgs i_BareLoop) (defBody i_BareLoop) (defScope i_BareLoop) [(("__class__" : Str), cc_BareLoop)] .none kVi_BareLoop dci_BareLoop pmi_BareLoop ani_BareLoop (.ref ca_BareLoop) cti_BareLoop), sli_BareLoop⟩)
    (ci_BareLoop : PySem.W.codeIn K (.ref ca_BareLoop) "BareLoop.__init__" = true)
    (co_BareLoop : K.lookup ca_BareLoop = some ⟨ccl_BareLoop, cdd_BareLoop, .fields vs_BareLoop, ccs_BareLoop⟩)
    (v2_BareLoop : vs_BareLoop[2]? = some (.str file_BareLoop tf_BareLoop))
    (fm_BareLoop : ((P.main.file : Str) == file_BareLoop) = true)
    (ce_BareLoop : K.lookup cc_BareLoop = some ⟨ce0_BareLoop, cld_BareLoop, .cell (some (.ref C_BareLoop)), csl_BareLoop⟩)
    (iC_BareLoop : PySem.W.isClsIn K C_BareLoop = true)
    (tI_BareLoop : PySem.W.typeIn K (.ref fi_BareLoop) = some (.type "function"))
    (fI_NameTaken : PySem.W.findIn K (.ref C_NameTaken) "__init__" = some (some (.ref fi_NameTaken)))
    (li_NameTaken : K.lookup fi_NameTaken = some ⟨oci_NameTaken, odi_NameTaken, .func (PySem.W.fnX "__init__" "NameTaken.__init__" (defArgs i_NameTaken) (defBody i_NameTaken) (defScope i_NameTaken) [(("__class__" : Str), cc_NameTaken)] .none kVi_NameTaken dci_NameTaken pmi_NameTaken ani_NameTaken (.ref ca_NameTaken) cti_NameTaken), sli_NameTaken⟩)
    (ci_NameTaken : PySem.W.codeIn K (.ref ca_NameTaken) "NameTaken.__init__" = true)
    (co_NameTaken : K.lookup ca_NameTaken = some ⟨ccl_NameTaken, cdd_NameTaken, .fields vs_NameTaken, ccs_NameTaken⟩)
    (v2_NameTaken : vs_NameTaken[2]? = some (.str file_NameTaken tf_NameTaken))
    (fm_NameTaken : ((P.main.file : Str) == file_NameTaken) = true)
    (ce_NameTaken : K.lookup cc_NameTaken = some ⟨ce0_NameTaken, cld_NameTaken, .cell (some (.ref C_NameTaken)), csl_NameTaken⟩)
    (iC_NameTaken : PySem.W.isClsIn K C_NameTaken = true)
    (tI_NameTaken : PySem.W.typeIn K (.ref fi_NameTaken) = some (.type "function"))
    (fI_NoEnd : PySem.W.findIn K (.ref C_NoEnd) "__init__" = some (some (.ref fi_NoEnd)))
    (li_NoEnd : K.lookup fi_NoEnd = some ⟨oci_NoEnd, odi_NoEnd, .func (PySem.W.fnX "__init__" "NoEnd.__init__" (defArgs i_NoEnd) (defBody i_NoEnd) (defScope i_NoEnd) [(("__class__" : Str), cc_NoEnd)] .none kVi_NoEnd dci_NoEnd pmi_NoEnd ani_NoEnd (.ref ca_NoEnd) cti_NoEnd), sli_NoEnd⟩)
    (ci_NoEnd : PySem.W.codeIn K (.ref ca_NoEnd) "NoEnd.__init__" = true)
    (co_NoEnd : K.lookup ca_NoEnd = some ⟨ccl_NoEnd, cdd_NoEnd, .fields vs_NoEnd, ccs_NoEnd⟩)
    (v2_NoEnd : vs_NoEnd[2]? = some (.str file_NoEnd tf_NoEnd))
    (fm_NoEnd : ((P.main.file : Str) == file_NoEnd) = true)
    (ce_NoEnd : K.lookup cc_NoEnd = some ⟨ce0_NoEnd, cld_NoEnd, .cell (some (.ref C_NoEnd)), csl_NoEnd⟩)
    (iC_NoEnd : PySem.W.isClsIn K C_NoEnd = true)
    (tI_NoEnd : PySem.W.typeIn K (.ref fi_NoEnd) = some (.type "function"))
    (fI_NoProgram : PySem.W.findIn K (.ref C_NoProgram) "__init__" = some (some (.ref fi_NoProgram)))
    (li_NoProgram : K.lookup fi_NoProgram = some ⟨oci_NoProgram, odi_NoProgram, .func (PySem.W.fnX "__init__" "NoProgram.__init__" (defArgs i_NoProgram) (defBody i_NoProgram) (defScope i_NoProgram) [(("__class__" : Str), cc_NoProgram)] .none kVi_NoProgram dci_NoProgram pmi_NoProgram ani_NoProgram (.ref ca_NoProgram) cti_NoProgram), sli_NoProgram⟩)
    (ci_NoProgram : PySem.W.codeIn K (.ref ca_NoProgram) "NoProgram.__init__" = true)
    (co_NoProgram : K.lookup ca_NoProgram = some ⟨ccl_NoProgram, cdd_NoProgram, .fields vs_NoProgram, ccs_NoProgram⟩)
    (v2_NoProgram : vs_NoProgram[2]? = some (.str file_NoProgram tf_NoProgram))
    (fm_NoProgram : ((P.main.file : Str) == file_NoProgram) = true)
    (ce_NoProgram : K.lookup cc_NoProgram = some ⟨ce0_NoProgram, cld_NoProgram, .cell (some (.ref C_NoProgram)), csl_NoProgram⟩)
    (iC_NoProgram : PySem.W.isClsIn K C_NoProgram = true)
    (tI_NoProgram : PySem.W.typeIn K (.ref fi_NoProgram) = some (.type "function"))
    (fI_NoTeam : PySem.W.findIn K (.ref C_NoTeam) "__init__" = some (some (.ref fi_NoTeam)))
    (li_NoTeam : K.lookup fi_NoTeam = some ⟨oci_NoTeam, odi_NoTeam, .func (PySem.W.fnX "__init__" "NoTeam.__init__" (defArgs i_NoTeam) (defBody i_NoTeam) (defScope i_NoTeam) [(("__class__" : Str), cc_NoTeam)] .none kVi_NoTeam dci_NoTeam pmi_NoTeam ani_NoTeam (.ref ca_NoTeam) cti_NoTeam), sli_NoTeam⟩)
    (ci_NoTeam : PySem.W.codeIn K (.ref ca_NoTeam) "NoTeam.__init__" = true)
    (co_NoTeam : K.lookup ca_NoTeam = some ⟨ccl_NoTeam, cdd_NoTeam, .fields vs_NoTeam, ccs_NoTeam⟩)
    (v2_NoTeam : vs_NoTeam[2]? = some (.str file_NoTeam tf_NoTeam))
    (fm_NoTeam : ((P.main.file : Str) == file_NoTeam) = true)
    (ce_NoTeam : K.lookup cc_NoTeam = some ⟨ce0_NoTeam, cld_NoTeam, .cell (some (.ref C_NoTeam)), csl_NoTeam⟩)
    (iC_NoTeam : PySem.W.isClsIn K C_NoTeam = true)
    (tI_NoTeam : PySem.W.typeIn K (.ref fi_NoTeam) = some (.type "function"))
    (fI_NotStanding : PySem.W.findIn K (.ref C_NotStanding) "__init__" = some (some (.ref fi_NotStanding)))
    (li_NotStanding : K.lookup fi_NotStanding = some ⟨oci_NotStanding, odi_NotStanding, .func (PySem.W.fnX "__init__" "NotStanding.__init__" (defArgs i_NotStanding) (defBody i_NotStanding) (defScope i_NotStanding) [(("__class__" : Str), cc_NotStanding)] .none kVi_NotStanding dci_NotStanding pmi_NotStanding ani_NotStanding (.ref ca_NotStanding) cti_NotStanding), sli_NotStanding⟩)
    (ci_NotStanding : PySem.W.codeIn K (.ref ca_NotStanding) "NotStanding.__init__" = true)
    (co_NotStanding : K.lookup ca_NotStanding = some ⟨ccl_NotStanding, cdd_NotStanding, .fields vs_NotStanding, ccs_NotStanding⟩)
    (v2_NotStanding : vs_NotStanding[2]? = some (.str file_NotStanding tf_NotStanding))
    (fm_NotStanding : ((P.main.file : Str) == file_NotStanding) = true)
    (ce_NotStanding : K.lookup cc_NotStanding = some ⟨ce0_NotStanding, cld_NotStanding, .cell (some (.ref C_NotStanding)), csl_NotStanding⟩)
    (iC_NotStanding : PySem.W.isClsIn K C_NotStanding = true)
    (tI_NotStanding : PySem.W.typeIn K (.ref fi_NotStanding) = some (.type "function"))
    (fI_TextError : PySem.W.findIn K (.ref C_TextError) "__init__" = some (some (.ref fi_TextError)))
    (li_TextError : K.lookup fi_TextError = some ⟨oci_TextError, odi_TextError, .func (PySem.W.fnX "__init__" "TextError.__init__" (defArgs i_TextError) (defBody i_TextError) (defScope i_TextError) [(("__class__" : Str), cc_TextError)] .none kVi_TextError dci_TextError pmi_TextError ani_TextError (.ref ca_TextError) cti_TextError), sli_TextError⟩)
    (ci_TextError : PySem.W.codeIn K (.ref ca_TextError) "TextError.__init__" = true)
    (co_TextError : K.lookup ca_TextError = some ⟨ccl_TextError, cdd_TextError, .fields vs_TextError, ccs_TextError⟩)
    (v2_TextError : vs_TextError[2]? = some (.str file_TextError tf_TextError))
    (fm_TextError : ((P.main.file : Str) == file_TextError) = true)
    (ce_TextError : K.lookup cc_TextError = some ⟨ce0_TextError, cld_TextError, .cell (some (.ref C_TextError)), csl_TextError⟩)
    (iC_TextError : PySem.W.isClsIn K C_TextError = true)
    (tI_TextError : PySem.W.typeIn K (.ref fi_TextError) = some (.type "function"))
    (fI_Unending : PySem.W.findIn K (.ref C_Unending) "__init__" = some (some (.ref fi_Unending)))
    (li_Unending : K.lookup fi_Unending = some ⟨oci_Unending, odi_Unending, .func (PySem.W.fnX "__init__" "Unending.__init__" (defArgs i_Unending) (defBody i_Unending) (defScope i_Unending) [(("__class__" : Str), cc_Unending)] .none kVi_Unending dci_Unending pmi_Unending ani_Unending (.ref ca_Unending) cti_Unending), sli_Unending⟩)
    (ci_Unending : PySem.W.codeIn K (.ref ca_Unending) "Unending.__init__" = true)
    (co_Unending : K.lookup ca_Unending = some ⟨ccl_Unending, cdd_Unending, .fields vs_Unending, ccs_Unending⟩)
    (v2_Unending : vs_Unending[2]? = some (.str file_Unending tf_Unending))
    (fm_Unending : ((P.main.file : Str) == file_Unending) = true)
    (ce_Unending : K.lookup cc_Unending = some ⟨ce0_Unending, cld_Unending, .cell (some (.ref C_Unending)), csl_Unending⟩)
    (iC_Unending : PySem.W.isClsIn K C_Unending = true)
    (tI_Unending : PySem.W.typeIn K (.ref fi_Unending) = some (.type "function"))
    (fI_Unreachable : PySem.W.findIn K (.ref C_Unreachable) "__init__" = some (some (.ref fi_Unreachable)))
    (li_Unreachable : K.lookup fi_Unreachable = some ⟨oci_Unreachable, odi_Unreachable, .func (PySem.W.fnX "__init__" "Unreachable.__init__" (defArgs i_Unreachable) (defBody i_Unreachable) (defScope i_Unreachable) [(("__class__" : Str), cc_Unreachable)] .none kVi_Unreachable dci_Unreachable pmi_Unreachable ani_Unreachable (.ref ca_Unreachable) cti_Unreachable), sli_Unreachable⟩)
    (ci_Unreachable : PySem.W.codeIn K (.ref ca_Unreachable) "Unreachable.__init__" = true)
    (co_Unreachable : K.lookup ca_Unreachable = some ⟨ccl_Unreachable, cdd_Unreachable, .fields vs_Unreachable, ccs_Unreachable⟩)
    (v2_Unreachable : vs_Unreachable[2]? = some (.str file_Unreachable tf_Unreachable))
    (fm_Unreachable : ((P.main.file : Str) == file_Unreachable) = true)
    (ce_Unreachable : K.lookup cc_Unreachable = some ⟨ce0_Unreachable, cld_Unreachable, .cell (some (.ref C_Unreachable)), csl_Unreachable⟩)
    (iC_Unreachable : PySem.W.isClsIn K C_Unreachable = true)
    (tI_Unreachable : PySem.W.typeIn K (.ref fi_Unreachable) = some (.type "function"))
    (fI_WildProgram : PySem.W.findIn K (.ref C_WildProgram) "__init__" = some (some (.ref fi_WildProgram)))
    (li_WildProgram : K.lookup fi_WildProgram = some ⟨oci_WildProgram, odi_WildProgram, .func (PySem.W.fnX "__init__" "WildProgram.__init__" (defArgs i_WildProgram) (defBody i_WildProgram) (defScope i_WildProgram) [(("__class__" : Str), cc_WildProgram)] .none kVi_WildProgram dci_WildProgram pmi_WildProgram ani_WildProgram (.ref ca_WildProgram) cti_WildProgram), sli_WildProgram⟩)
    (ci_WildProgram : PySem.W.codeIn K (.ref ca_WildProgram) "WildProgram.__init__" = true)
    (co_WildProgram : K.lookup ca_WildProgram = some ⟨ccl_WildProgram, cdd_WildProgram, .fields vs_WildProgram, ccs_WildProgram⟩)
    (v2_WildProgram : vs_WildProgram[2]? = some (.str file_WildProgram tf_WildProgram))
    (fm_WildProgram : ((P.main.file : Str) == file_WildProgram) = true)
    (ce_WildProgram : K.lookup cc_WildProgram = some ⟨ce0_WildProgram, cld_WildProgram, .cell (some (.ref C_WildProgram)), csl_WildProgram⟩)
    (iC_WildProgram : PySem.W.isClsIn K C_WildProgram = true)
    (tI_WildProgram : PySem.W.typeIn K (.ref fi_WildProgram) = some (.type "function"))
    (top : (P.main.scope.names.lookup ("super" : Str)).isSome = false)
    (op : PySem.W.nsIn K cStatics "thirdparty.any" = some none)
    (rz_BadChange : rzIB K C_BadChange C_BadChange fi_BadChange ["node"] = true)
    (rz_BadDoors : rz0B K C_BadDoors = true)
    (xC_BadDoors : PySem.W.excIn K C_BadDoors [.type "ValueError", .type "Exception", .type "BaseException", .type "object"] "ValueError.__new__" = true)
    (rz_BadJournal : rzIB K C_BadJournal C_BadJournal fi_BadJournal ["line"] = true)
    (rz_BadLine : rzIB K C_BadLine C_TextError fi_TextError ["line"] = true)
    (rz_BadName : rzIB K C_BadName C_BadName fi_BadName ["name"] = true)
    (rz_BadNode : rzIB K C_BadNode C_BadNode fi_BadNode ["node"] = true)
    (rz_BadOrder : rz0B K C_BadOrder = true)
    (xC_BadOrder : PySem.W.excIn K C_BadOrder [.type "ValueError", .type "Exception", .type "BaseException", .type "object"] "ValueError.__new__" = true)
    (rz_BadPolicy : rzIB K C_BadPolicy C_BadPolicy fi_BadPolicy ["name"] = true)
    (rz_BadRing : rz0B K C_BadRing = true)
    (xC_BadRing : PySem.W.excIn K C_BadRing [.type "ValueError", .type "Exception", .type "BaseException", .type "object"] "ValueError.__new__" = true)
    (rz_BadRun : rzIB K C_BadRun C_BadRun fi_BadRun ["lane", "place"] = true)
    (rz_BadStart : rz0B K C_BadStart = true)
    (xC_BadStart : PySem.W.excIn K C_BadStart [.type "ValueError", .type "Exception", .type "BaseException", .type "object"] "ValueError.__new__" = true)
    (rz_BadStay : rzIB K C_BadStay C_BadStay fi_BadStay ["place"] = true)
    (rz_BadWord : rz0B K C_BadWord = true)
    (xC_BadWord : PySem.W.excIn K C_BadWord [.type "ValueError", .type "Exception", .type "BaseException", .type "object"] "ValueError.__new__" = true)
    (rz_BareLoop : rzIB K C_BareLoop C_BareLoop fi_BareLoop ["statement"] = true)
    (rz_DeskError : rz0B K C_DeskError = true)
    (xC_DeskError : PySem.W.excIn K C_DeskError [.type "ValueError", .type "Exception", .type "BaseException", .type "object"] "ValueError.__new__" = true)
    (rz_DuplicateMark : rzIB K C_DuplicateMark C_TextError fi_TextError ["line"] = true)
    (rz_Incomplete : rz0B K C_Incomplete = true)
    (xC_Incomplete : PySem.W.excIn K C_Incomplete [.type "ValueError", .type "Exception", .type "BaseException", .type "object"] "ValueError.__new__" = true)
    (rz_Misplaced : rzIB K C_Misplaced C_TextError fi_TextError ["line"] = true)
    (rz_MixedGraphs : rz0B K C_MixedGraphs = true)
    (xC_MixedGraphs : PySem.W.excIn K C_MixedGraphs [.type "ValueError", .type "Exception", .type "BaseException", .type "object"] "ValueError.__new__" = true)
    (rz_NameTaken : rzIB K C_NameTaken C_NameTaken fi_NameTaken ["name"] = true)
    (rz_NoEnd : rzIB K C_NoEnd C_NoEnd fi_NoEnd ["node"] = true)
    (rz_NoMark : rzIB K C_NoMark C_TextError fi_TextError ["line"] = true)
    (rz_NoProgram : rzIB K C_NoProgram C_NoProgram fi_NoProgram ["name"] = true)
    (rz_NoTeam : rzIB K C_NoTeam C_NoTeam fi_NoTeam ["name"] = true)
    (rz_NoWild : rz0B K C_NoWild = true)
    (xC_NoWild : PySem.W.excIn K C_NoWild [.type "ValueError", .type "Exception", .type "BaseException", .type "object"] "ValueError.__new__" = true)
    (rz_NotOver : rz0B K C_NotOver = true)
    (xC_NotOver : PySem.W.excIn K C_NotOver [.type "ValueError", .type "Exception", .type "BaseException", .type "object"] "ValueError.__new__" = true)
    (rz_NotStanding : rzIB K C_NotStanding C_NotStanding fi_NotStanding ["node"] = true)
    (rz_NothingToRedo : rz0B K C_NothingToRedo = true)
    (xC_NothingToRedo : PySem.W.excIn K C_NothingToRedo [.type "ValueError", .type "Exception", .type "BaseException", .type "object"] "ValueError.__new__" = true)
    (rz_NothingToUndo : rz0B K C_NothingToUndo = true)
    (xC_NothingToUndo : PySem.W.excIn K C_NothingToUndo [.type "ValueError", .type "Exception", .type "BaseException", .type "object"] "ValueError.__new__" = true)
    (rz_TextError : rzIB K C_TextError C_TextError fi_TextError ["line"] = true)
    (rz_TooDeep : rzIB K C_TooDeep C_TextError fi_TextError ["line"] = true)
    (rz_TooLarge : rz0B K C_TooLarge = true)
    (xC_TooLarge : PySem.W.excIn K C_TooLarge [.type "ValueError", .type "Exception", .type "BaseException", .type "object"] "ValueError.__new__" = true)
    (rz_Unclosed : rzIB K C_Unclosed C_TextError fi_TextError ["line"] = true)
    (rz_Unending : rzIB K C_Unending C_Unending fi_Unending ["lane"] = true)
    (rz_Unreachable : rzIB K C_Unreachable C_Unreachable fi_Unreachable ["node"] = true)
    (rz_WildProgram : rzIB K C_WildProgram C_WildProgram fi_WildProgram ["node"] = true)
    (xt_ForeworthError : exmTab K [C_BadChange, C_BadDoors, C_BadJournal, C_BadLine, C_BadName, C_BadNode, C_BadOrder, C_BadPolicy, C_BadRing, C_BadRun, C_BadStart, C_BadStay, C_BadWord, C_BareLoop, C_DeskError, C_DuplicateMark, C_Incomplete, C_Misplaced, C_MixedGraphs, C_NameTaken, C_NoEnd, C_NoMark, C_NoProgram, C_NoTeam, C_NoWild, C_NotOver, C_NotStanding, C_NothingToRedo, C_NothingToUndo, C_TextError, C_TooDeep, C_TooLarge, C_Unclosed, C_Unending, C_Unreachable, C_WildProgram] C_ForeworthError = true)
    (tab : isTab K [C_BadChange, C_BadDoors, C_BadJournal, C_BadLine, C_BadName, C_BadNode, C_BadOrder, C_BadPolicy, C_BadRing, C_BadRun, C_BadStart, C_BadStay, C_BadWord, C_BareLoop, C_DeskError, C_DuplicateMark, C_Incomplete, C_Misplaced, C_MixedGraphs, C_NameTaken, C_NoEnd, C_NoMark, C_NoProgram, C_NoTeam, C_NoWild, C_NotOver, C_NotStanding, C_NothingToRedo, C_NothingToUndo, C_TextError, C_TooDeep, C_TooLarge, C_Unclosed, C_Unending, C_Unreachable, C_WildProgram] [.ref C_BadNode, .ref C_Unreachable, .ref C_NoEnd, .ref C_BadRing, .ref C_TextError, .ref C_BadLine, .ref C_Misplaced, .ref C_TooDeep, .ref C_DuplicateMark, .ref C_Unclosed, .ref C_NoMark, .ref C_BareLoop, .ref C_BadStart, .ref C_BadRun, .ref C_NotStanding, .ref C_Incomplete, .ref C_BadStay, .ref C_TooLarge, .ref C_WildProgram, .ref C_NoWild, .ref C_BadWord, .ref C_BadChange, .ref C_BadDoors, .ref C_BadOrder, .ref C_MixedGraphs, .ref C_NotOver, .ref C_DeskError, .ref C_BadName, .ref C_NameTaken, .ref C_NoProgram, .ref C_NoTeam, .ref C_Unending, .ref C_BadPolicy, .ref C_NothingToUndo, .ref C_NothingToRedo, .ref C_BadJournal, .type "ValueError"] [[false, false, false, false, false, false, false, false, false, false, false, false, false, false, false, false, false, false, false, false, false, true, false, false, false, false, false, false, false, false, false, false, false, false, false, false, true], [false, false, false, false, false, false, false, false, false, false, false, false, false, false, false, false, false, false, false, false, false, false, true, false, false, false, false, false, false, false, false, false, false, false, false, false, true], [false, false, false, false, false, false, false, false, false, false, false, false, false, false, false, false, false, false, false, false, false, false, false, false, false, false, true, false, false, false, false, false, false, false, false, true, true], [false, false, false, false, true, true, false, false, false, false, false, false, false, false, false, false, false, false, false, false, false, false, false, false, false, false, false, false, false, false, false, false, false, false, false, false, true], [false, false, false, false, false, false, false, false, false, false, false, false, false, false, false, false, false, false, false, false, false, false, false, false, false, false, true, true, false, false, false, false, false, false, false, false, true], [true, false, false, false, false, false, false, false, false, false, false, false, false, false, false, false, false, false, false, false, false, false, false, false, false, false, false, false, false, false, false, false, false, false, false, false, true], [false, false, false, false, false, false, false, false, false, false, false, false, false, false, false, false, false, false, false, false, false, false, false, true, false, false, false, false, false, false, false, false, false, false, false, false, true], [false, false, false, false, false, false, false, false, false, false, false, false, false, false, false, false, false, false, false, false, false, false, false, false, false, false, true, false, false, false, false, false, true, false, false, false, true], [false, false, false, true, false, false, false, false, false, false, false, false, false, false, false, false, false, false, false, false, false, false, false, false, false, false, false, false, false, false, false, false, false, false, false, false, true], [false, false, false, false, false, false, false, false, false, false, false, false, false, true, false, false, false, false, false, false, false, false, false, false, false, false, false, false, false, false, false, false, false, false, false, false, true], [false, false, false, false, false, false, false, false, false, false, false, false, true, false, false, false, false, false, false, false, false, false, false, false, false, false, false, false, false, false, false, false, false, false, false, false, true], [false, false, false, false, false, false, false, false, false, false, false, false, false, false, false, false, true, false, false, false, false, false, false, false, false, false, false, false, false, false, false, false, false, false, false, false, true], [false, false, false, false, false, false, false, false, false, false, false, false, false, false, false, false, false, false, false, false, true, false, false, false, false, false, false, false, false, false, false, false, false, false, false, false, true], [false, false, false, false, false, false, false, false, false, false, false, true, false, false, false, false, false, false, false, false, false, false, false, false, false, false, false, false, false, false, false, false, false, false, false, false, true], [false, false, false, false, false, false, false, false, false, false, false, false, false, false, false, false, false, false, false, false, false, false, false, false, false, false, true, false, false, false, false, false, false, false, false, false, true], [false, false, false, false, true, false, false, false, true, false, false, false, false, false, false, false, false, false, false, false, false, false, false, false, false, false, false, false, false, false, false, false, false, false, false, false, true], [false, false, false, false, false, false, false, false, false, false, false, false, false, false, false, true, false, false, false, false, false, false, false, false, false, false, false, false, false, false, false, false, false, false, false, false, true], [false, false, false, false, true, false, true, false, false, false, false, false, false, false, false, false, false, false, false, false, false, false, false, false, false, false, false, false, false, false, false, false, false, false, false, false, true], [false, false, false, false, false, false, false, false, false, false, false, false, false, false, false, false, false, false, false, false, false, false, false, false, true, false, false, false, false, false, false, false, false, false, false, false, true], [false, false, false, false, false, false, false, false, false, false, false, false, false, false, false, false, false, false, false, false, false, false, false, false, false, false, true, false, true, false, false, false, false, false, false, false, true], [false, false, true, false, false, false, false, false, false, false, false, false, false, false, false, false, false, false, false, false, false, false, false, false, false, false, false, false, false, false, false, false, false, false, false, false, true], [false, false, false, false, true, false, false, false, false, false, true, false, false, false, false, false, false, false, false, false, false, false, false, false, false, false, false, false, false, false, false, false, false, false, false, false, true], [false, false, false, false, false, false, false, false, false, false, false, false, false, false, false, false, false, false, false, false, false, false, false, false, false, false, true, false, false, true, false, false, false, false, false, false, true], [false, false, false, false, false, false, false, false, false, false, false, false, false, false, false, false, false, false, false, false, false, false, false, false, false, false, true, false, false, false, true, false, false, false, false, false, true], [false, false, false, false, false, false, false, false, false, false, false, false, false, false, false, false, false, false, false, true, false, false, false, false, false, false, false, false, false, false, false, false, false, false, false, false, true], [false, false, false, false, false, false, false, false, false, false, false, false, false, false, false, false, false, false, false, false, false, false, false, false, false, true, false, false, false, false, false, false, false, false, false, false, true], [false, false, false, false, false, false, false, false, false, false, false, false, false, false, true, false, false, false, false, false, false, false, false, false, false, false, false, false, false, false, false, false, false, false, false, false, true], [false, false, false, false, false, false, false, false, false, false, false, false, false, false, false, false, false, false, false, false, false, false, false, false, false, false, true, false, false, false, false, false, false, false, true, false, true], [false, false, false, false, false, false, false, false, false, false, false, false, false, false, false, false, false, false, false, false, false, false, false, false, false, false, true, false, false, false, false, false, false, true, false, false, true], [false, false, false, false, true, false, false, false, false, false, false, false, false, false, false, false, false, false, false, false, false, false, false, false, false, false, false, false, false, false, false, false, false, false, false, false, true], [false, false, false, false, true, false, false, true, false, false, false, false, false, false, false, false, false, false, false, false, false, false, false, false, false, false, false, false, false, false, false, false, false, false, false, false, true], [false, false, false, false, false, false, false, false, false, false, false, false, false, false, false, false, false, true, false, false, false, false, false, false, false, false, false, false, false, false, false, false, false, false, false, false, true], [false, false, false, false, true, false, false, false, false, true, false, false, false, false, false, false, false, false, false, false, false, false, false, false, false, false, false, false, false, false, false, false, false, false, false, false, true], [false, false, false, false, false, false, false, false, false, false, false, false, false, false, false, false, false, false, false, false, false, false, false, false, false, false, true, false, false, false, false, true, false, false, false, false, true], [false, true, false, false, false, false, false, false, false, false, false, false, false, false, false, false, false, false, false, false, false, false, false, false, false, false, false, false, false, false, false, false, false, false, false, false, true], [false, false, false, false, false, false, false, false, false, false, false, false, false, false, false, false, false, false, true, false, false, false, false, false, false, false, false, false, false, false, false, false, false, false, false, false, true]] = true) :
    ∃ fd : FuncData, (∀ (s : Shared) (v : Value), BindsTo s fd ⟨[v], []⟩ [("_law_script", v)]) ∧ ∀ base : Heap, K.In base → base.Ns mainGlobals mg → FnOk P w K mg base (L2N.CX P w) 5 fa fd ["_law_script"] (spLaw K) := by
  have e := hfa.symm.trans (PySem.W.mg_of X G a_law)
  cases e
  have F_law_cell := fun_mk (st := s_law_cell) l_law_cell c_law_cell k_law_cell
  have b_law_cell := F_law_cell.binds (ps := ["_law_script", "_law_k"]) fun _ _ _ _ _ _ us hl => match us, hl with | [_, _], _ => rfl
  have F_law_digits := fun_mk (st := s_law_digits) l_law_digits c_law_digits k_law_digits
  have b_law_digits := F_law_digits.binds (ps := ["_law_cell_here", "_law_count", "_law_size"]) fun _ _ _ _ _ _ us hl => match us, hl with | [_, _, _], _ => rfl
  have F_law_seed := fun_mk (st := s_law_seed) l_law_seed c_law_seed k_law_seed
  have b_law_seed := F_law_seed.binds (ps := ["_law_script", "_law_k"]) fun _ _ _ _ _ _ us hl => match us, hl with | [_, _], _ => rfl
  have F_law_is_int := fun_mk (st := s_law_is_int) l_law_is_int c_law_is_int k_law_is_int
  have b_law_is_int := F_law_is_int.binds (ps := ["_law_value"]) fun _ _ _ _ _ _ us hl => match us, hl with | [_], _ => rfl
  have F_law_first := fun_mk (st := s_law_first) l_law_first c_law_first k_law_first
  have b_law_first := F_law_first.binds (ps := ["_law_k", "_law_one", "_law_two"]) fun _ _ _ _ _ _ us hl => match us, hl with | [_, _, _], _ => rfl
  have F_law_second := fun_mk (st := s_law_second) l_law_second c_law_second k_law_second
  have b_law_second := F_law_second.binds (ps := ["_law_k", "_law_one", "_law_text_here"]) fun _ _ _ _ _ _ us hl => match us, hl with | [_, _, _], _ => rfl
  have F_law_kinds := fun_mk (st := s_law_kinds) l_law_kinds c_law_kinds k_law_kinds
  have b_law_kinds := F_law_kinds.binds (ps := ["_law_e"]) fun _ _ _ _ _ _ us hl => match us, hl with | [_], _ => rfl
  have F_law_fields := fun_mk (st := s_law_fields) l_law_fields c_law_fields k_law_fields
  have b_law_fields := F_law_fields.binds (ps := ["_law_k", "_law_e"]) fun _ _ _ _ _ _ us hl => match us, hl with | [_, _], _ => rfl
  have F_law_due := fun_mk (st := s_law_due) l_law_due c_law_due k_law_due
  have b_law_due := F_law_due.binds (ps := ["_law_k", "_law_one", "_law_two", "_law_text_here"]) fun _ _ _ _ _ _ us hl => match us, hl with | [_, _, _, _], _ => rfl
  have F_law_same := fun_mk (st := s_law_same) l_law_same c_law_same k_law_same
  have b_law_same := F_law_same.binds (ps := ["_law_told", "_law_due_here"]) fun _ _ _ _ _ _ us hl => match us, hl with | [_, _], _ => rfl
  have F_law_raised := fun_mk (st := s_law_raised) l_law_raised c_law_raised k_law_raised
  have b_law_raised := F_law_raised.binds (ps := ["_law_k", "_law_one", "_law_two", "_law_text_here"]) fun _ _ _ _ _ _ us hl => match us, hl with | [_, _, _, _], _ => rfl
  have F_law_number := fun_mk (st := s_law_number) l_law_number c_law_number k_law_number
  have b_law_number := F_law_number.binds (ps := ["_law_cell_here"]) fun _ _ _ _ _ _ us hl => match us, hl with | [_], _ => rfl
  have F_law_text := fun_mk (st := s_law_text) l_law_text c_law_text k_law_text
  have b_law_text := F_law_text.binds (ps := ["_law_cell_here"]) fun _ _ _ _ _ _ us hl => match us, hl with | [_], _ => rfl
  have F_law := fun_mk (st := s_law) l_law c_law k_law
  have b_law := F_law.binds (ps := ["_law_script"]) fun _ _ _ _ _ _ us hl => match us, hl with | [_], _ => rfl
  let T : Txt P K mg := ⟨f_law_cell, _, F_law_cell, k_law_cell, PySem.W.mg_of X G a_law_cell, b_law_cell, f_law_digits, _, F_law_digits, k_law_digits, PySem.W.mg_of X G a_law_digits, b_law_digits, f_law_seed, _, F_law_seed, k_law_seed, PySem.W.mg_of X G a_law_seed, b_law_seed, f_law_is_int, _, F_law_is_int, k_law_is_int, PySem.W.mg_of X G a_law_is_int, b_law_is_int, f_law_first, _, F_law_first, k_law_first, PySem.W.mg_of X G a_law_first, b_law_first, f_law_second, _, F_law_second, k_law_second, PySem.W.mg_of X G a_law_second, b_law_second, f_law_kinds, _, F_law_kinds, k_law_kinds, PySem.W.mg_of X G a_law_kinds, b_law_kinds, f_law_fields, _, F_law_fields, k_law_fields, PySem.W.mg_of X G a_law_fields, b_law_fields, f_law_due, _, F_law_due, k_law_due, PySem.W.mg_of X G a_law_due, b_law_due, f_law_same, _, F_law_same, k_law_same, PySem.W.mg_of X G a_law_same, b_law_same, f_law_raised, _, F_law_raised, k_law_raised, PySem.W.mg_of X G a_law_raised, b_law_raised, f_law_number, _, F_law_number, k_law_number, PySem.W.mg_of X G a_law_number, b_law_number, f_law_text, _, F_law_text, k_law_text, PySem.W.mg_of X G a_law_text, b_law_text, fa, _, F_law, k_law, PySem.W.mg_of X G a_law, b_law, PySem.W.mg_none_of X G z_len, PySem.W.mg_none_of X G z_abs, PySem.W.mg_none_of X G z_int, PySem.W.mg_none_of X G z_range, PySem.W.mg_none_of X G z_isinstance, PySem.W.mg_none_of X G z_bool, PySem.W.mg_none_of X G z_str, PySem.W.mg_none_of X G z_ValueError, PySem.W.mg_none_of X G z_super, C_BadChange, PySem.W.mg_of X G aC_BadChange, C_BadDoors, PySem.W.mg_of X G aC_BadDoors, C_BadJournal, PySem.W.mg_of X G aC_BadJournal, C_BadLine, PySem.W.mg_of X G aC_BadLine, C_BadName, PySem.W.mg_of X G aC_BadName, C_BadNode, PySem.W.mg_of X G aC_BadNode, C_BadOrder, PySem.W.mg_of X G aC_BadOrder, C_BadPolicy, PySem.W.mg_of X G aC_BadPolicy, C_BadRing, PySem.W.mg_of X G aC_BadRing, C_BadRun, PySem.W.mg_of X G aC_BadRun, C_BadStart, PySem.W.mg_of X G aC_BadStart, C_BadStay, PySem.W.mg_of X G aC_BadStay, C_BadWord, PySem.W.mg_of X G aC_BadWord, C_BareLoop, PySem.W.mg_of X G aC_BareLoop, C_DeskError, PySem.W.mg_of X G aC_DeskError, C_DuplicateMark, PySem.W.mg_of X G aC_DuplicateMark, C_ForeworthError, PySem.W.mg_of X G aC_ForeworthError, C_Incomplete, PySem.W.mg_of X G aC_Incomplete, C_Misplaced, PySem.W.mg_of X G aC_Misplaced, C_MixedGraphs, PySem.W.mg_of X G aC_MixedGraphs, C_NameTaken, PySem.W.mg_of X G aC_NameTaken, C_NoEnd, PySem.W.mg_of X G aC_NoEnd, C_NoMark, PySem.W.mg_of X G aC_NoMark, C_NoProgram, PySem.W.mg_of X G aC_NoProgram, C_NoTeam, PySem.W.mg_of X G aC_NoTeam, C_NoWild, PySem.W.mg_of X G aC_NoWild, C_NotOver, PySem.W.mg_of X G aC_NotOver, C_NotStanding, PySem.W.mg_of X G aC_NotStanding, C_NothingToRedo, PySem.W.mg_of X G aC_NothingToRedo, C_NothingToUndo, PySem.W.mg_of X G aC_NothingToUndo, C_TextError, PySem.W.mg_of X G aC_TextError, C_TooDeep, PySem.W.mg_of X G aC_TooDeep, C_TooLarge, PySem.W.mg_of X G aC_TooLarge, C_Unclosed, PySem.W.mg_of X G aC_Unclosed, C_Unending, PySem.W.mg_of X G aC_Unending, C_Unreachable, PySem.W.mg_of X G aC_Unreachable, C_WildProgram, PySem.W.mg_of X G aC_WildProgram, fi_BadChange, _, cc_BadChange, ca_BadChange, supD_mk (F := nf_BadChange cc_BadChange ca_BadChange) rfl li_BadChange ci_BadChange co_BadChange v2_BadChange fm_BadChange ce_BadChange iC_BadChange top op, tI_BadChange, Binds.all fun us hl => match us, hl with | [_, _], _ => rfl, fi_BadJournal, _, cc_BadJournal, ca_BadJournal, supD_mk (F := nf_BadJournal cc_BadJournal ca_BadJournal) rfl li_BadJournal ci_BadJournal co_BadJournal v2_BadJournal fm_BadJournal ce_BadJournal iC_BadJournal top op, tI_BadJournal, Binds.all fun us hl => match us, hl with | [_, _], _ => rfl, fi_BadName, _, cc_BadName, ca_BadName, supD_mk (F := nf_BadName cc_BadName ca_BadName) rfl li_BadName ci_BadName co_BadName v2_BadName fm_BadName ce_BadName iC_BadName top op, tI_BadName, Binds.all fun us hl => match us, hl with | [_, _], _ => rfl, fi_BadNode, _, cc_BadNode, ca_BadNode, supD_mk (F := nf_BadNode cc_BadNode ca_BadNode) rfl li_BadNode ci_BadNode co_BadNode v2_BadNode fm_BadNode ce_BadNode iC_BadNode top op, tI_BadNode, Binds.all fun us hl => match us, hl with | [_, _], _ => rfl, fi_BadPolicy, _, cc_BadPolicy, ca_BadPolicy, supD_mk (F := nf_BadPolicy cc_BadPolicy ca_BadPolicy) rfl li_BadPolicy ci_BadPolicy co_BadPolicy v2_BadPolicy fm_BadPolicy ce_BadPolicy iC_BadPolicy top op, tI_BadPolicy, Binds.all fun us hl => match us, hl with | [_, _], _ => rfl, fi_BadRun, _, cc_BadRun, ca_BadRun, supD_mk (F := nf_BadRun cc_BadRun ca_BadRun) rfl li_BadRun ci_BadRun co_BadRun v2_BadRun fm_BadRun ce_BadRun iC_BadRun top op, tI_BadRun, Binds.all fun us hl => match us, hl with | [_, _, _], _ => rfl, fi_BadStay, _, cc_BadStay, ca_BadStay, supD_mk (F := nf_BadStay cc_BadStay ca_BadStay) rfl li_BadStay ci_BadStay co_BadStay v2_BadStay fm_BadStay ce_BadStay iC_BadStay top op, tI_BadStay, Binds.all fun us hl => match us, hl with | [_, _], _ => rfl, fi_BareLoop, _, cc_BareLoop, ca_BareLoop, supD_mk (F := nf_BareLoop cc_BareLoop ca_BareLoop) rfl li_BareLoop ci_BareLoop co_BareLoop v2_BareLoop fm_BareLoop ce_BareLoop iC_BareLoop top op, tI_BareLoop, Binds.all fun us hl => match us, hl with | [_, _], _ => rfl, fi_NameTaken, _, cc_NameTaken, ca_NameTaken, supD_mk (F := nf_NameTaken cc_NameTaken ca_NameTaken) rfl li_NameTaken ci_NameTaken co_NameTaken v2_NameTaken fm_NameTaken ce_NameTaken iC_NameTaken top op, tI_NameTaken, Binds.all fun us hl => match us, hl with | [_, _], _ => rfl, fi_NoEnd, _, cc_NoEnd, ca_NoEnd, supD_mk (F := nf_NoEnd cc_NoEnd ca_NoEnd) rfl li_NoEnd ci_NoEnd co_NoEnd v2_NoEnd fm_NoEnd ce_NoEnd iC_NoEnd top op, tI_NoEnd, Binds.all fun us hl => match us, hl with | [_, _], _ => rfl, fi_NoProgram, _, cc_NoProgram, ca_NoProgram, supD_mk (F := nf_NoProgram cc_NoProgram ca_NoProgram) rfl li_NoProgram ci_NoProgram co_NoProgram v2_NoProgram fm_NoProgram ce_NoProgram iC_NoProgram top op, tI_NoProgram, Binds.all fun us hl => match us, hl with | [_, _], _ => rfl, fi_NoTeam, _, cc_NoTeam, ca_NoTeam, supD_mk (F := nf_NoTeam cc_NoTeam ca_NoTeam) rfl li_NoTeam ci_NoTeam co_NoTeam v2_NoTeam fm_NoTeam ce_NoTeam iC_NoTeam top op, tI_NoTeam, Binds.all fun us hl => match us, hl with | [_, _], _ => rfl, fi_NotStanding, _, cc_NotStanding, ca_NotStanding, supD_mk (F := nf_NotStanding cc_NotStanding ca_NotStanding) rfl li_NotStanding ci_NotStanding co_NotStanding v2_NotStanding fm_NotStanding ce_NotStanding iC_NotStanding top op, tI_NotStanding, Binds.all fun us hl => match us, hl with | [_, _], _ => rfl, fi_TextError, _, cc_TextError, ca_TextError, supD_mk (F := nf_TextError cc_TextError ca_TextError) rfl li_TextError ci_TextError co_TextError v2_TextError fm_TextError ce_TextError iC_TextError top op, tI_TextError, Binds.all fun us hl => match us, hl with | [_, _], _ => rfl, fi_Unending, _, cc_Unending, ca_Unending, supD_mk (F := nf_Unending cc_Unending ca_Unending) rfl li_Unending ci_Unending co_Unending v2_Unending fm_Unending ce_Unending iC_Unending top op, tI_Unending, Binds.all fun us hl => match us, hl with | [_, _], _ => rfl, fi_Unreachable, _, cc_Unreachable, ca_Unreachable, supD_mk (F := nf_Unreachable cc_Unreachable ca_Unreachable) rfl li_Unreachable ci_Unreachable co_Unreachable v2_Unreachable fm_Unreachable ce_Unreachable iC_Unreachable top op, tI_Unreachable, Binds.all fun us hl => match us, hl with | [_, _], _ => rfl, fi_WildProgram, _, cc_WildProgram, ca_WildProgram, supD_mk (F := nf_WildProgram cc_WildProgram ca_WildProgram) rfl li_WildProgram ci_WildProgram co_WildProgram v2_WildProgram fm_WildProgram ce_WildProgram iC_WildProgram top op, tI_WildProgram, Binds.all fun us hl => match us, hl with | [_, _], _ => rfl, rzIB_ok rz_BadChange, rz0B_ok rz_BadDoors, xC_BadDoors, rzIB_ok rz_BadJournal, rzIB_ok rz_BadLine, rzIB_ok rz_BadName, rzIB_ok rz_BadNode, rz0B_ok rz_BadOrder, xC_BadOrder, rzIB_ok rz_BadPolicy, rz0B_ok rz_BadRing, xC_BadRing, rzIB_ok rz_BadRun, rz0B_ok rz_BadStart, xC_BadStart, rzIB_ok rz_BadStay, rz0B_ok rz_BadWord, xC_BadWord, rzIB_ok rz_BareLoop, rz0B_ok rz_DeskError, xC_DeskError, rzIB_ok rz_DuplicateMark, rz0B_ok rz_Incomplete, xC_Incomplete, rzIB_ok rz_Misplaced, rz0B_ok rz_MixedGraphs, xC_MixedGraphs, rzIB_ok rz_NameTaken, rzIB_ok rz_NoEnd, rzIB_ok rz_NoMark, rzIB_ok rz_NoProgram, rzIB_ok rz_NoTeam, rz0B_ok rz_NoWild, xC_NoWild, rz0B_ok rz_NotOver, xC_NotOver, rzIB_ok rz_NotStanding, rz0B_ok rz_NothingToRedo, xC_NothingToRedo, rz0B_ok rz_NothingToUndo, xC_NothingToUndo, rzIB_ok rz_TextError, rzIB_ok rz_TooDeep, rz0B_ok rz_TooLarge, xC_TooLarge, rzIB_ok rz_Unclosed, rzIB_ok rz_Unending, rzIB_ok rz_Unreachable, rzIB_ok rz_WildProgram, xt_ForeworthError, tab⟩
  exact ⟨PySem.W.fnOf "law" "law" (defArgs s_law) (defBody s_law) (defScope s_law) .none kV_law dc_law pm_law an_law cd_law ct_law, fun s v => .of_eq rfl, fun base _ _ => law_ok (ok_law T) (plain T)⟩
end
end K70

open PyProof.Rows PySem.W PySem in set_option maxRecDepth 100000 in set_option maxHeartbeats 0 in
theorem PySem.Challenge.cw_foreworth_k70_errors_by_hand_holds : PySem.Challenge.rw_foreworth_k70_errors_by_hand.Holds := by
  w_on; o_law; k_headL; (case hw => w_witness2)
  k_fill
  refine Mv.law_walk (l := PySem.Challenge.rw_foreworth_k70_errors_by_hand) (k := 5) (x := "_law_script") rfl rfl ⟨rfl, by decide, by decide⟩ (fun w h Y => PySem.W.kIn_of Y) ?F
  case F => as_aux_lemma =>
    intro w mg fa h KX G hmg
    refine' K70.all_mk KX G hmg ?a_law_cell ?l_law_cell ?c_law_cell ?k_law_cell ?a_law_digits ?l_law_digits ?c_law_digits ?k_law_digits ?a_law_seed ?l_law_seed ?c_law_seed ?k_law_seed ?a_law_is_int ?l_law_is_int ?c_law_is_int ?k_law_is_int ?a_law_first ?l_law_first ?c_law_first ?k_law_first ?a_law_second ?l_law_second ?c_law_second ?k_law_second ?a_law_kinds ?l_law_kinds ?c_law_kinds ?k_law_kinds ?a_law_fields ?l_law_fields ?c_law_fields ?k_law_fields ?a_law_due ?l_law_due ?c_law_due ?k_law_due ?a_law_same ?l_law_same ?c_law_same ?k_law_same ?a_law_raised ?l_law_raised ?c_law_raised ?k_law_raised ?a_law_number ?l_law_number ?c_law_number ?k_law_number ?a_law_text ?l_law_text ?c_law_text ?k_law_text ?a_law ?l_law ?c_law ?k_law ?z_len ?z_abs ?z_int ?z_range ?z_isinstance ?z_bool ?z_str ?z_ValueError ?z_super ?aC_BadChange ?aC_BadDoors ?aC_BadJournal ?aC_BadLine ?aC_BadName ?aC_BadNode ?aC_BadOrder ?aC_BadPolicy ?aC_BadRing ?aC_BadRun ?aC_BadStart ?aC_BadStay ?aC_BadWord ?aC_BareLoop ?aC_DeskError ?aC_DuplicateMark ?aC_ForeworthError ?aC_Incomplete ?aC_Misplaced ?aC_MixedGraphs ?aC_NameTaken ?aC_NoEnd ?aC_NoMark ?aC_NoProgram ?aC_NoTeam ?aC_NoWild ?aC_NotOver ?aC_NotStanding ?aC_NothingToRedo ?aC_NothingToUndo ?aC_TextError ?aC_TooDeep ?aC_TooLarge ?aC_Unclosed ?aC_Unending ?aC_Unreachable ?aC_WildProgram ?fI_BadChange ?li_BadChange ?ci_BadChange ?co_BadChange ?v2_BadChange ?fm_BadChange ?ce_BadChange ?iC_BadChange ?tI_BadChange ?fI_BadJournal ?li_BadJournal ?ci_BadJournal ?co_BadJournal ?v2_BadJournal ?fm_BadJournal ?ce_BadJournal ?iC_BadJournal ?tI_BadJournal ?fI_BadName ?li_BadName ?ci_BadName ?co_BadName ?v2_BadName ?fm_BadName ?ce_BadName ?iC_BadName ?tI_BadName ?fI_BadNode ?li_BadNode ?ci_BadNode ?co_BadNode ?v2_BadNode ?fm_BadNode ?ce_BadNode ?iC_BadNode ?tI_BadNode ?fI_BadPolicy ?li_BadPolicy ?ci_BadPolicy ?co_BadPolicy ?v2_BadPolicy ?fm_BadPolicy ?ce_BadPolicy ?iC_BadPolicy ?tI_BadPolicy ?fI_BadRun ?li_BadRun ?ci_BadRun ?co_BadRun ?v2_BadRun ?fm_BadRun ?ce_BadRun ?iC_BadRun ?tI_BadRun ?fI_BadStay ?li_BadStay ?ci_BadStay ?co_BadStay ?v2_BadStay ?fm_BadStay ?ce_BadStay ?iC_BadStay ?tI_BadStay ?fI_BareLoop ?li_BareLoop ?ci_BareLoop ?co_BareLoop ?v2_BareLoop ?fm_BareLoop ?ce_BareLoop ?iC_BareLoop ?tI_BareLoop ?fI_NameTaken ?li_NameTaken ?ci_NameTaken ?co_NameTaken ?v2_NameTaken ?fm_NameTaken ?ce_NameTaken ?iC_NameTaken ?tI_NameTaken ?fI_NoEnd ?li_NoEnd ?ci_NoEnd ?co_NoEnd ?v2_NoEnd ?fm_NoEnd ?ce_NoEnd ?iC_NoEnd ?tI_NoEnd ?fI_NoProgram ?li_NoProgram ?ci_NoProgram ?co_NoProgram ?v2_NoProgram ?fm_NoProgram ?ce_NoProgram ?iC_NoProgram ?tI_NoProgram ?fI_NoTeam ?li_NoTeam ?ci_NoTeam ?co_NoTeam ?v2_NoTeam ?fm_NoTeam ?ce_NoTeam ?iC_NoTeam ?tI_NoTeam ?fI_NotStanding ?li_NotStanding ?ci_NotStanding ?co_NotStanding ?v2_NotStanding ?fm_NotStanding ?ce_NotStanding ?iC_NotStanding ?tI_NotStanding ?fI_TextError ?li_TextError ?ci_TextError ?co_TextError ?v2_TextError ?fm_TextError ?ce_TextError ?iC_TextError ?tI_TextError ?fI_Unending ?li_Unending ?ci_Unending ?co_Unending ?v2_Unending ?fm_Unending ?ce_Unending ?iC_Unending ?tI_Unending ?fI_Unreachable ?li_Unreachable ?ci_Unreachable ?co_Unreachable ?v2_Unreachable ?fm_Unreachable ?ce_Unreachable ?iC_Unreachable ?tI_Unreachable ?fI_WildProgram ?li_WildProgram ?ci_WildProgram ?co_WildProgram ?v2_WildProgram ?fm_WildProgram ?ce_WildProgram ?iC_WildProgram ?tI_WildProgram ?top ?op ?rz_BadChange ?rz_BadDoors ?xC_BadDoors ?rz_BadJournal ?rz_BadLine ?rz_BadName ?rz_BadNode ?rz_BadOrder ?xC_BadOrder ?rz_BadPolicy ?rz_BadRing ?xC_BadRing ?rz_BadRun ?rz_BadStart ?xC_BadStart ?rz_BadStay ?rz_BadWord ?xC_BadWord ?rz_BareLoop ?rz_DeskError ?xC_DeskError ?rz_DuplicateMark ?rz_Incomplete ?xC_Incomplete ?rz_Misplaced ?rz_MixedGraphs ?xC_MixedGraphs ?rz_NameTaken ?rz_NoEnd ?rz_NoMark ?rz_NoProgram ?rz_NoTeam ?rz_NoWild ?xC_NoWild ?rz_NotOver ?xC_NotOver ?rz_NotStanding ?rz_NothingToRedo ?xC_NothingToRedo ?rz_NothingToUndo ?xC_NothingToUndo ?rz_TextError ?rz_TooDeep ?rz_TooLarge ?xC_TooLarge ?rz_Unclosed ?rz_Unending ?rz_Unreachable ?rz_WildProgram ?xt_ForeworthError ?tab
    (case a_law_cell => k_is)
    (case l_law_cell => k_is)
    (case c_law_cell => k_is)
    (case k_law_cell => k_is)
    (case a_law_digits => k_is)
    (case l_law_digits => k_is)
    (case c_law_digits => k_is)
    (case k_law_digits => k_is)
    (case a_law_seed => k_is)
    (case l_law_seed => k_is)
    (case c_law_seed => k_is)
    (case k_law_seed => k_is)
    (case a_law_is_int => k_is)
    (case l_law_is_int => k_is)
    (case c_law_is_int => k_is)
    (case k_law_is_int => k_is)
    (case a_law_first => k_is)
    (case l_law_first => k_is)
    (case c_law_first => k_is)
    (case k_law_first => k_is)
    (case a_law_second => k_is)
    (case l_law_second => k_is)
    (case c_law_second => k_is)
    (case k_law_second => k_is)
    (case a_law_kinds => k_is)
    (case l_law_kinds => k_is)
    (case c_law_kinds => k_is)
    (case k_law_kinds => k_is)
    (case a_law_fields => k_is)
    (case l_law_fields => k_is)
    (case c_law_fields => k_is)
    (case k_law_fields => k_is)
    (case a_law_due => k_is)
    (case l_law_due => k_is)
    (case c_law_due => k_is)
    (case k_law_due => k_is)
    (case a_law_same => k_is)
    (case l_law_same => k_is)
    (case c_law_same => k_is)
    (case k_law_same => k_is)
    (case a_law_raised => k_is)
    (case l_law_raised => k_is)
    (case c_law_raised => k_is)
    (case k_law_raised => k_is)
    (case a_law_number => k_is)
    (case l_law_number => k_is)
    (case c_law_number => k_is)
    (case k_law_number => k_is)
    (case a_law_text => k_is)
    (case l_law_text => k_is)
    (case c_law_text => k_is)
    (case k_law_text => k_is)
    (case a_law => k_is)
    (case l_law => k_is)
    (case c_law => k_is)
    (case k_law => k_is)
    (case z_len => k_is)
    (case z_abs => k_is)
    (case z_int => k_is)
    (case z_range => k_is)
    (case z_isinstance => k_is)
    (case z_bool => k_is)
    (case z_str => k_is)
    (case z_ValueError => k_is)
    (case z_super => k_is)
    (case aC_BadChange => k_is)
    (case aC_BadDoors => k_is)
    (case aC_BadJournal => k_is)
    (case aC_BadLine => k_is)
    (case aC_BadName => k_is)
    (case aC_BadNode => k_is)
    (case aC_BadOrder => k_is)
    (case aC_BadPolicy => k_is)
    (case aC_BadRing => k_is)
    (case aC_BadRun => k_is)
    (case aC_BadStart => k_is)
    (case aC_BadStay => k_is)
    (case aC_BadWord => k_is)
    (case aC_BareLoop => k_is)
    (case aC_DeskError => k_is)
    (case aC_DuplicateMark => k_is)
    (case aC_ForeworthError => k_is)
    (case aC_Incomplete => k_is)
    (case aC_Misplaced => k_is)
    (case aC_MixedGraphs => k_is)
    (case aC_NameTaken => k_is)
    (case aC_NoEnd => k_is)
    (case aC_NoMark => k_is)
    (case aC_NoProgram => k_is)
    (case aC_NoTeam => k_is)
    (case aC_NoWild => k_is)
    (case aC_NotOver => k_is)
    (case aC_NotStanding => k_is)
    (case aC_NothingToRedo => k_is)
    (case aC_NothingToUndo => k_is)
    (case aC_TextError => k_is)
    (case aC_TooDeep => k_is)
    (case aC_TooLarge => k_is)
    (case aC_Unclosed => k_is)
    (case aC_Unending => k_is)
    (case aC_Unreachable => k_is)
    (case aC_WildProgram => k_is)
    (case fI_BadChange => k_is)
    (case li_BadChange => k_is)
    (case ci_BadChange => k_is)
    (case co_BadChange => k_is)
    (case v2_BadChange => rfl)
    (case fm_BadChange => (first | rfl | kernel_rfl | decide))
    (case ce_BadChange => k_is)
    (case iC_BadChange => k_is)
    (case tI_BadChange => k_is)
    (case fI_BadJournal => k_is)
    (case li_BadJournal => k_is)
    (case ci_BadJournal => k_is)
    (case co_BadJournal => k_is)
    (case v2_BadJournal => rfl)
    (case fm_BadJournal => (first | rfl | kernel_rfl | decide))
    (case ce_BadJournal => k_is)
    (case iC_BadJournal => k_is)
    (case tI_BadJournal => k_is)
    (case fI_BadName => k_is)
    (case li_BadName => k_is)
    (case ci_BadName => k_is)
    (case co_BadName => k_is)
    (case v2_BadName => rfl)
    (case fm_BadName => (first | rfl | kernel_rfl | decide))
    (case ce_BadName => k_is)
    (case iC_BadName => k_is)
    (case tI_BadName => k_is)
    (case fI_BadNode => k_is)
    (case li_BadNode => k_is)
    (case ci_BadNode => k_is)
    (case co_BadNode => k_is)
    (case v2_BadNode => rfl)
    (case fm_BadNode => (first | rfl | kernel_rfl | decide))
    (case ce_BadNode => k_is)
    (case iC_BadNode => k_is)
    (case tI_BadNode => k_is)
    (case fI_BadPolicy => k_is)
    (case li_BadPolicy => k_is)
    (case ci_BadPolicy => k_is)
    (case co_BadPolicy => k_is)
    (case v2_BadPolicy => rfl)
    (case fm_BadPolicy => (first | rfl | kernel_rfl | decide))
    (case ce_BadPolicy => k_is)
    (case iC_BadPolicy => k_is)
    (case tI_BadPolicy => k_is)
    (case fI_BadRun => k_is)
    (case li_BadRun => k_is)
    (case ci_BadRun => k_is)
    (case co_BadRun => k_is)
    (case v2_BadRun => rfl)
    (case fm_BadRun => (first | rfl | kernel_rfl | decide))
    (case ce_BadRun => k_is)
    (case iC_BadRun => k_is)
    (case tI_BadRun => k_is)
    (case fI_BadStay => k_is)
    (case li_BadStay => k_is)
    (case ci_BadStay => k_is)
    (case co_BadStay => k_is)
    (case v2_BadStay => rfl)
    (case fm_BadStay => (first | rfl | kernel_rfl | decide))
    (case ce_BadStay => k_is)
    (case iC_BadStay => k_is)
    (case tI_BadStay => k_is)
    (case fI_BareLoop => k_is)
    (case li_BareLoop => k_is)
    (case ci_BareLoop => k_is)
    (case co_BareLoop => k_is)
    (case v2_BareLoop => rfl)
    (case fm_BareLoop => (first | rfl | kernel_rfl | decide))
    (case ce_BareLoop => k_is)
    (case iC_BareLoop => k_is)
    (case tI_BareLoop => k_is)
    (case fI_NameTaken => k_is)
    (case li_NameTaken => k_is)
    (case ci_NameTaken => k_is)
    (case co_NameTaken => k_is)
    (case v2_NameTaken => rfl)
    (case fm_NameTaken => (first | rfl | kernel_rfl | decide))
    (case ce_NameTaken => k_is)
    (case iC_NameTaken => k_is)
    (case tI_NameTaken => k_is)
    (case fI_NoEnd => k_is)
    (case li_NoEnd => k_is)
    (case ci_NoEnd => k_is)
    (case co_NoEnd => k_is)
    (case v2_NoEnd => rfl)
    (case fm_NoEnd => (first | rfl | kernel_rfl | decide))
    (case ce_NoEnd => k_is)
    (case iC_NoEnd => k_is)
    (case tI_NoEnd => k_is)
    (case fI_NoProgram => k_is)
    (case li_NoProgram => k_is)
    (case ci_NoProgram => k_is)
    (case co_NoProgram => k_is)
    (case v2_NoProgram => rfl)
    (case fm_NoProgram => (first | rfl | kernel_rfl | decide))
    (case ce_NoProgram => k_is)
    (case iC_NoProgram => k_is)
    (case tI_NoProgram => k_is)
    (case fI_NoTeam => k_is)
    (case li_NoTeam => k_is)
    (case ci_NoTeam => k_is)
    (case co_NoTeam => k_is)
    (case v2_NoTeam => rfl)
    (case fm_NoTeam => (first | rfl | kernel_rfl | decide))
    (case ce_NoTeam => k_is)
    (case iC_NoTeam => k_is)
    (case tI_NoTeam => k_is)
    (case fI_NotStanding => k_is)
    (case li_NotStanding => k_is)
    (case ci_NotStanding => k_is)
    (case co_NotStanding => k_is)
    (case v2_NotStanding => rfl)
    (case fm_NotStanding => (first | rfl | kernel_rfl | decide))
    (case ce_NotStanding => k_is)
    (case iC_NotStanding => k_is)
    (case tI_NotStanding => k_is)
    (case fI_TextError => k_is)
    (case li_TextError => k_is)
    (case ci_TextError => k_is)
    (case co_TextError => k_is)
    (case v2_TextError => rfl)
    (case fm_TextError => (first | rfl | kernel_rfl | decide))
    (case ce_TextError => k_is)
    (case iC_TextError => k_is)
    (case tI_TextError => k_is)
    (case fI_Unending => k_is)
    (case li_Unending => k_is)
    (case ci_Unending => k_is)
    (case co_Unending => k_is)
    (case v2_Unending => rfl)
    (case fm_Unending => (first | rfl | kernel_rfl | decide))
    (case ce_Unending => k_is)
    (case iC_Unending => k_is)
    (case tI_Unending => k_is)
    (case fI_Unreachable => k_is)
    (case li_Unreachable => k_is)
    (case ci_Unreachable => k_is)
    (case co_Unreachable => k_is)
    (case v2_Unreachable => rfl)
    (case fm_Unreachable => (first | rfl | kernel_rfl | decide))
    (case ce_Unreachable => k_is)
    (case iC_Unreachable => k_is)
    (case tI_Unreachable => k_is)
    (case fI_WildProgram => k_is)
    (case li_WildProgram => k_is)
    (case ci_WildProgram => k_is)
    (case co_WildProgram => k_is)
    (case v2_WildProgram => rfl)
    (case fm_WildProgram => (first | rfl | kernel_rfl | decide))
    (case ce_WildProgram => k_is)
    (case iC_WildProgram => k_is)
    (case tI_WildProgram => k_is)
    (case top => (first | rfl | kernel_rfl | decide))
    (case op => k_is)
    (case rz_BadChange => (first | kernel_rfl | rfl | k_is))
    (case rz_BadDoors => (first | kernel_rfl | rfl | k_is))
    (case xC_BadDoors => k_exc)
    (case rz_BadJournal => (first | kernel_rfl | rfl | k_is))
    (case rz_BadLine => (first | kernel_rfl | rfl | k_is))
    (case rz_BadName => (first | kernel_rfl | rfl | k_is))
    (case rz_BadNode => (first | kernel_rfl | rfl | k_is))
    (case rz_BadOrder => (first | kernel_rfl | rfl | k_is))
    (case xC_BadOrder => k_exc)
    (case rz_BadPolicy => (first | kernel_rfl | rfl | k_is))
    (case rz_BadRing => (first | kernel_rfl | rfl | k_is))
    (case xC_BadRing => k_exc)
    (case rz_BadRun => (first | kernel_rfl | rfl | k_is))
    (case rz_BadStart => (first | kernel_rfl | rfl | k_is))
    (case xC_BadStart => k_exc)
    (case rz_BadStay => (first | kernel_rfl | rfl | k_is))
    (case rz_BadWord => (first | kernel_rfl | rfl | k_is))
    (case xC_BadWord => k_exc)
    (case rz_BareLoop => (first | kernel_rfl | rfl | k_is))
    (case rz_DeskError => (first | kernel_rfl | rfl | k_is))
    (case xC_DeskError => k_exc)
    (case rz_DuplicateMark => (first | kernel_rfl | rfl | k_is))
    (case rz_Incomplete => (first | kernel_rfl | rfl | k_is))
    (case xC_Incomplete => k_exc)
    (case rz_Misplaced => (first | kernel_rfl | rfl | k_is))
    (case rz_MixedGraphs => (first | kernel_rfl | rfl | k_is))
    (case xC_MixedGraphs => k_exc)
    (case rz_NameTaken => (first | kernel_rfl | rfl | k_is))
    (case rz_NoEnd => (first | kernel_rfl | rfl | k_is))
    (case rz_NoMark => (first | kernel_rfl | rfl | k_is))
    (case rz_NoProgram => (first | kernel_rfl | rfl | k_is))
    (case rz_NoTeam => (first | kernel_rfl | rfl | k_is))
    (case rz_NoWild => (first | kernel_rfl | rfl | k_is))
    (case xC_NoWild => k_exc)
    (case rz_NotOver => (first | kernel_rfl | rfl | k_is))
    (case xC_NotOver => k_exc)
    (case rz_NotStanding => (first | kernel_rfl | rfl | k_is))
    (case rz_NothingToRedo => (first | kernel_rfl | rfl | k_is))
    (case xC_NothingToRedo => k_exc)
    (case rz_NothingToUndo => (first | kernel_rfl | rfl | k_is))
    (case xC_NothingToUndo => k_exc)
    (case rz_TextError => (first | kernel_rfl | rfl | k_is))
    (case rz_TooDeep => (first | kernel_rfl | rfl | k_is))
    (case rz_TooLarge => (first | kernel_rfl | rfl | k_is))
    (case xC_TooLarge => k_exc)
    (case rz_Unclosed => (first | kernel_rfl | rfl | k_is))
    (case rz_Unending => (first | kernel_rfl | rfl | k_is))
    (case rz_Unreachable => (first | kernel_rfl | rfl | k_is))
    (case rz_WildProgram => (first | kernel_rfl | rfl | k_is))
    (case xt_ForeworthError => (first | kernel_rfl | rfl | k_is))
    (case tab => (first | kernel_rfl | rfl | k_is))
