import PyProof.Rows.All
import Wide.All
import OpenK.AllK
import Wide.FinOn
import HandS.ForMost
import HandS.ForExc
import HandS.Wide
import HandS.Dict
import KE.KeyNested
import HandS.IsInst
import HandS.Conv
import HandS.Style
import HandS.ExcCtx
import HandS.HotCalls
import HandS.ExcIs
import KE.KExcIs
import HandS.Ends
import HandS.EndBits
import HandS.ExcInit
import HandS.Nested
import HandS.FStr
import HandS.ClsMeth
import KE.KExcSuper
import KE.KSuper
import HandS.SortRule
import HandS.Text
import HandS.TupAny
import HandS.TupMul
import PyProof.StrOps2
import HandS.Defaults
import HandS.MakeKwOnly
import HandS.CallSlots
import HandS.IterNext
import HandS.OwnIter
import KE.KOwnIter
import HandS.Strs
import HandS.Iter
import HandS.SetFor
import HandS.More
import HandS.SortInts
import HandS.Remove
import HandS.SortKw
import HandS.Property
import HandS.New0
import KE.OsRunLaw
import PySem.Challenge.RW_foreworth_k14_plain_policies
set_option Elab.async false
set_option linter.all false
set_option maxRecDepth 100000
set_option maxHeartbeats 4100000
/-! Values as plain data over the hand layer: what a def computes is a function on data; lists in the making are owned by a slot. -/
namespace Mv
open PySem L2
/-- plain data -/
inductive D where
  | non | bl (b : Bool) | int (i : Int) | str (x : Str)
  | lst (xs : List D) | tup (xs : List D)
  | rdl (xs : List D)
  | rdt (xs : List D)
  | ins (C : Addr) (fs : List (Str × D))
  | exo (a : Addr)
  | exd (a dd : Addr) (fs : List (Str × D))
  | ob (C : Addr) (fs : List (Str × D))
  | dk (kvs : List (Key × D))
  | dt (kvs : List (NestedKey × D))
instance : Inhabited D := ⟨.non⟩
/-- H' holds all that H tracks -/
def Le (H H' : Hp) : Prop := ∀ a o, H a = some o → H' a = some o
theorem Le.refl (H : Hp) : Le H H := fun _ _ h => h
theorem Le.trans {H H1 H2 : Hp} (a : Le H H1) (b : Le H1 H2) : Le H H2 := fun x o h => b x o (a x o h)
theorem Le.new {H : Hp} {p : Addr} {o : HO} (h : H p = none) : Le H (upd H p o) := fun a u e => by
  rw [upd_ne (ne_of_none e h)]; exact e
theorem Le.mut {H H' : Hp} {p : Addr} {o : HO} (e : Le H H') (h : H p = none) : Le H (upd H' p o) := fun a u ha => by
  rw [upd_ne (ne_of_none ha h)]; exact e a u ha
theorem Le.back {H H' : Hp} {p : Addr} (e : Le H H') (h : H' p = none) : H p = none := by
  cases h1 : H p with
  | none => rfl
  | some o => rw [e p o h1] at h; cases h
theorem Le.sqL {K : PySem.W.Frag} {H H' : Hp} {a : Addr} {xs : List V} (e : Le H H') (h : SqL K H a xs) : SqL K H' a xs := Same.seq e h
theorem Le.sqT {K : PySem.W.Frag} {H H' : Hp} {a : Addr} {xs : List V} (e : Le H H') (h : SqT K H a xs) : SqT K H' a xs := by
  match h with
  | .inl (.inl z) => exact .inl (.inl (e _ _ z))
  | .inl (.inr ⟨o, z⟩) => exact .inl (.inr ⟨o, e _ _ z⟩)
  | .inr z => exact .inr z
/-- a tuple that is known to the object, and that has no dict -/
def TX (H : Hp) (a : Addr) (xs : List V) : Prop := ∃ o : Obj, H a = some (.frz o (.tup xs)) ∧ o.dict = none
theorem Le.tx {H H' : Hp} {a : Addr} {xs : List V} (e : Le H H') (h : TX H a xs) : TX H' a xs := let ⟨o, h1, h2⟩ := h; ⟨o, e _ _ h1, h2⟩
theorem TX.sqT {K : PySem.W.Frag} {H : Hp} {a : Addr} {xs : List V} (h : TX H a xs) : SqT K H a xs := let ⟨o, h1, _⟩ := h; .inl (.inr ⟨o, h1⟩)
theorem TX.inj {H : Hp} {a : Addr} {xs ys : List V} (h : TX H a xs) (k : TX H a ys) : xs = ys := by
  obtain ⟨o, h1, _⟩ := h
  obtain ⟨u, k1, _⟩ := k
  rw [h1] at k1
  injection k1 with e
  injection e with _ e
  injection e
/-- a dict whose keys are tuples of numbers -/
def dkey : NestedKey → Bool
  | .text _ => false
  | .none => true
  | .num _ => true
  | .tup ks => dkeys ks
where dkeys : List NestedKey → Bool
  | [] => true
  | k :: ks => dkey k && dkeys ks
def hash0 : NestedKey → Int
  | .none =>
    reduceHash 0xFCA86420
  | .num i => hashInt i
  | .text _ => 0
  | .tup ks => reduceHash (Builtin.Tuple.tupleHashOf (hashes0 ks))
where hashes0 : List NestedKey → List Int
  | [] => []
  | k :: ks => hash0 k :: hashes0 ks
/-- what is true of such a dict's object -/
def DTo (a : Addr) (kvs : List (NestedKey × Addr × V)) : Heap → Prop := fun h => (a == sysModules) = false ∧ kvs.length ≤ sizeLine ∧ (∀ x ∈ kvs, dkey x.1 = true ∧ x.1.depth ≤ 8) ∧
  ∃ xs : List (NestedKey × Addr × Value), Paired (fun p q => p.1 = q.1 ∧ p.2.1 = q.2.1 ∧ RelV p.2.2 q.2.2) kvs xs ∧
    ∃ o es ep, h.get? a = some o ∧ o.ExactDict ∧ o.data = .dict es ep ∧ es.toList = xs.map (fun x => ⟨hash0 x.1, .ref x.2.1, x.2.2⟩) ∧ (xs.map (·.1)).Nodup
/-- the value that stands for a key -/
def KeyAt (B : Hp) : NestedKey → V → Prop
  | .none, v => v = .non
  | .num i, v => v = .int i
  | .text x, v => v = .str x
  | .tup ks, v => ∃ a xs, v = .ref a ∧ TX B a xs ∧ KeysAt B ks xs
where KeysAt (B : Hp) : List NestedKey → List V → Prop
  | [], xs => xs = []
  | k :: ks, xs => ∃ v vs, xs = v :: vs ∧ KeyAt B k v ∧ KeysAt B ks vs
mutual
theorem KeyAt.mono {B B' : Hp} (e : Le B B') : ∀ (k : NestedKey) (v : V), KeyAt B k v → KeyAt B' k v
  | .none, v, h => by rw [KeyAt] at *; exact h
  | .num i, v, h => by rw [KeyAt] at *; exact h
  | .text x, v, h => by rw [KeyAt] at *; exact h
  | .tup ks, v, h => by rw [KeyAt] at *; obtain ⟨a, xs, h1, h2, h3⟩ := h; exact ⟨a, xs, h1, e.tx h2, KeysAt.mono e ks xs h3⟩
theorem KeysAt.mono {B B' : Hp} (e : Le B B') : ∀ (ks : List NestedKey) (vs : List V), KeyAt.KeysAt B ks vs → KeyAt.KeysAt B' ks vs
  | [], vs, h => by rw [KeyAt.KeysAt] at *; exact h
  | k :: ks, vs, h => by rw [KeyAt.KeysAt] at *; obtain ⟨v, ws, h1, h2, h3⟩ := h; exact ⟨v, ws, h1, KeyAt.mono e k v h2, KeysAt.mono e ks ws h3⟩
end
mutual
/-- v stands for d, read in B -/
def Rep (K : PySem.W.Frag) (B : Hp) : D → V → Prop
  | .non, v => v = .non
  | .bl b, v => v = .bl b
  | .int i, v => v = .int i
  | .str x, v => v = .str x
  | .lst ds, v => ∃ a xs, v = .ref a ∧ B a = some (.lst xs) ∧ Reps K B ds xs
  | .tup ds, v => ∃ a xs, v = .ref a ∧ TX B a xs ∧ Reps K B ds xs
  | .rdl ds, v => ∃ a xs, v = .ref a ∧ SqL K B a xs ∧ Reps K B ds xs
  | .rdt ds, v => ∃ a xs, v = .ref a ∧ SqT K B a xs ∧ Reps K B ds xs
  | .ins C fs, v => ∃ a dx gs, v = .ref a ∧ B a = some (.ins C dx gs) ∧ RepF K B fs gs
  | .exo a, v => v = .ref a
  | .exd a dd fs, v => v = .ref a ∧ ∃ gs, B dd = some (.xd gs) ∧ RepF K B fs gs
  | .ob C fs, v => ∃ a dx gs, v = .ref a ∧ B a = some (.ins C dx gs) ∧ RepF K B fs gs
  | .dk kvs, v => ∃ a xs, v = .ref a ∧ B a = some (.dK xs) ∧ RepK K B kvs xs
  | .dt kvs, v => ∃ a xs, v = .ref a ∧ B a = some (.ext (DTo a xs)) ∧ RepT K B kvs xs
def Reps (K : PySem.W.Frag) (B : Hp) : List D → List V → Prop
  | [], xs => xs = []
  | d :: ds, xs => ∃ v vs, xs = v :: vs ∧ Rep K B d v ∧ Reps K B ds vs
def RepF (K : PySem.W.Frag) (B : Hp) : List (Str × D) → List (Str × V) → Prop
  | [], xs => xs = []
  | (n, d) :: ds, xs => ∃ v vs, xs = (n, v) :: vs ∧ Rep K B d v ∧ RepF K B ds vs
def RepK (K : PySem.W.Frag) (B : Hp) : List (Key × D) → List (Key × V) → Prop
  | [], xs => xs = []
  | (n, d) :: ds, xs => ∃ v vs, xs = (n, v) :: vs ∧ Rep K B d v ∧ RepK K B ds vs
def RepT (K : PySem.W.Frag) (B : Hp) : List (NestedKey × D) → List (NestedKey × Addr × V) → Prop
  | [], xs => xs = []
  | (n, d) :: ds, xs => ∃ q v vs, xs = (n, q, v) :: vs ∧ KeyAt B n (.ref q) ∧ Rep K B d v ∧ RepT K B ds vs
end
section
variable {K : PySem.W.Frag} {B B' : Hp}
mutual
theorem Rep.mono (e : Le B B') : ∀ (d : D) (v : V), Rep K B d v → Rep K B' d v
  | .non, v, h => by rw [Rep] at *; exact h
  | .bl b, v, h => by rw [Rep] at *; exact h
  | .int i, v, h => by rw [Rep] at *; exact h
  | .str x, v, h => by rw [Rep] at *; exact h
  | .lst ds, v, h => by rw [Rep] at *; obtain ⟨a, xs, h1, h2, h3⟩ := h; exact ⟨a, xs, h1, e _ _ h2, Reps.mono e ds xs h3⟩
  | .tup ds, v, h => by rw [Rep] at *; obtain ⟨a, xs, h1, h2, h3⟩ := h; exact ⟨a, xs, h1, e.tx h2, Reps.mono e ds xs h3⟩
  | .rdl ds, v, h => by rw [Rep] at *; obtain ⟨a, xs, h1, h2, h3⟩ := h; exact ⟨a, xs, h1, e.sqL h2, Reps.mono e ds xs h3⟩
  | .rdt ds, v, h => by rw [Rep] at *; obtain ⟨a, xs, h1, h2, h3⟩ := h; exact ⟨a, xs, h1, e.sqT h2, Reps.mono e ds xs h3⟩
  | .ins C fs, v, h => by rw [Rep] at *; obtain ⟨a, dx, gs, h1, h2, h3⟩ := h; exact ⟨a, dx, gs, h1, e _ _ h2, RepF.mono e fs gs h3⟩
  | .exo a, v, h => by rw [Rep] at *; exact h
  | .exd a dd fs, v, h => by rw [Rep] at *; obtain ⟨h1, gs, h2, h3⟩ := h; exact ⟨h1, gs, e _ _ h2, RepF.mono e fs gs h3⟩
  | .ob C fs, v, h => by rw [Rep] at *; obtain ⟨a, dx, gs, h1, h2, h3⟩ := h; exact ⟨a, dx, gs, h1, e _ _ h2, RepF.mono e fs gs h3⟩
  | .dk kvs, v, h => by rw [Rep] at *; obtain ⟨a, xs, h1, h2, h3⟩ := h; exact ⟨a, xs, h1, e _ _ h2, RepK.mono e kvs xs h3⟩
  | .dt kvs, v, h => by rw [Rep] at *; obtain ⟨a, xs, h1, h2, h3⟩ := h; exact ⟨a, xs, h1, e _ _ h2, RepT.mono e kvs xs h3⟩
theorem Reps.mono (e : Le B B') : ∀ (ds : List D) (vs : List V), Reps K B ds vs → Reps K B' ds vs
  | [], xs, h => by rw [Reps] at *; exact h
  | d :: ds, xs, h => by rw [Reps] at *; obtain ⟨v, vs, h1, h2, h3⟩ := h; exact ⟨v, vs, h1, Rep.mono e d v h2, Reps.mono e ds vs h3⟩
theorem RepF.mono (e : Le B B') : ∀ (ds : List (Str × D)) (vs : List (Str × V)), RepF K B ds vs → RepF K B' ds vs
  | [], xs, h => by rw [RepF] at *; exact h
  | (n, d) :: ds, xs, h => by rw [RepF] at *; obtain ⟨v, vs, h1, h2, h3⟩ := h; exact ⟨v, vs, h1, Rep.mono e d v h2, RepF.mono e ds vs h3⟩
theorem RepK.mono (e : Le B B') : ∀ (ds : List (Key × D)) (vs : List (Key × V)), RepK K B ds vs → RepK K B' ds vs
  | [], xs, h => by rw [RepK] at *; exact h
  | (n, d) :: ds, xs, h => by rw [RepK] at *; obtain ⟨v, vs, h1, h2, h3⟩ := h; exact ⟨v, vs, h1, Rep.mono e d v h2, RepK.mono e ds vs h3⟩
theorem RepT.mono (e : Le B B') : ∀ (ds : List (NestedKey × D)) (vs : List (NestedKey × Addr × V)), RepT K B ds vs → RepT K B' ds vs
  | [], xs, h => by rw [RepT] at *; exact h
  | (n, d) :: ds, xs, h => by rw [RepT] at *; obtain ⟨q, v, vs, h1, h2, h3, h4⟩ := h; exact ⟨q, v, vs, h1, KeyAt.mono e _ _ h2, Rep.mono e d v h3, RepT.mono e ds vs h4⟩
end
theorem reps_nil : Reps K B [] [] := by rw [Reps]
theorem reps_cons {d : D} {ds : List D} {v : V} {vs : List V} (h : Rep K B d v) (hs : Reps K B ds vs) : Reps K B (d :: ds) (v :: vs) := by
  rw [Reps]; exact ⟨v, vs, rfl, h, hs⟩
theorem Reps.length : ∀ {ds : List D} {vs : List V}, Reps K B ds vs → ds.length = vs.length
  | [], vs, h => by rw [Reps] at h; rw [h]; rfl
  | d :: ds, vs, h => by
    rw [Reps] at h; obtain ⟨v, ws, rfl, _, h3⟩ := h
    rw [List.length_cons, List.length_cons, Reps.length h3]
theorem Reps.get : ∀ {ds : List D} {vs : List V} {i : Nat} {d : D}, Reps K B ds vs → ds[i]? = some d → ∃ v, vs[i]? = some v ∧ Rep K B d v
  | [], vs, i, d, h, e => by simp at e
  | d0 :: ds, vs, 0, d, h, e => by
    rw [Reps] at h; obtain ⟨v, ws, rfl, h2, _⟩ := h
    simp at e; subst e; exact ⟨v, by simp, h2⟩
  | d0 :: ds, vs, i + 1, d, h, e => by
    rw [Reps] at h; obtain ⟨v, ws, rfl, _, h3⟩ := h
    obtain ⟨w, e1, e2⟩ := Reps.get (i := i) (d := d) h3 (by simpa using e)
    exact ⟨w, by simpa using e1, e2⟩
theorem Reps.append : ∀ {ds es : List D} {vs ws : List V}, Reps K B ds vs → Reps K B es ws → Reps K B (ds ++ es) (vs ++ ws)
  | [], es, vs, ws, h, h' => by rw [Reps] at h; subst h; exact h'
  | d :: ds, es, vs, ws, h, h' => by
    rw [Reps] at h; obtain ⟨v, us, rfl, h2, h3⟩ := h
    exact reps_cons h2 (Reps.append h3 h')
theorem Reps.take : ∀ {ds : List D} {vs : List V} (n : Nat), Reps K B ds vs → Reps K B (ds.take n) (vs.take n)
  | _, _, 0, _ => by rw [List.take_zero, List.take_zero]; exact reps_nil
  | [], vs, n + 1, h => by rw [Reps] at h; subst h; exact reps_nil
  | d :: ds, vs, n + 1, h => by
    rw [Reps] at h; obtain ⟨v, us, rfl, h2, h3⟩ := h
    exact reps_cons h2 (Reps.take n h3)
theorem Reps.drop : ∀ {ds : List D} {vs : List V} (n : Nat), Reps K B ds vs → Reps K B (ds.drop n) (vs.drop n)
  | _, _, 0, h => h
  | [], vs, n + 1, h => by rw [Reps] at h; subst h; exact reps_nil
  | d :: ds, vs, n + 1, h => by
    rw [Reps] at h; obtain ⟨v, us, rfl, h2, h3⟩ := h
    exact Reps.drop n h3
theorem Reps.set {d : D} {v : V} (h' : Rep K B d v) : ∀ {ds : List D} {vs : List V} (i : Nat), Reps K B ds vs → Reps K B (ds.set i d) (vs.set i v)
  | [], vs, i, h => by rw [Reps] at h; subst h; exact reps_nil
  | d0 :: ds, vs, 0, h => by
    rw [Reps] at h; obtain ⟨v0, us, rfl, h2, h3⟩ := h
    exact reps_cons h' h3
  | d0 :: ds, vs, i + 1, h => by
    rw [Reps] at h; obtain ⟨v0, us, rfl, h2, h3⟩ := h
    exact reps_cons h2 (Reps.set h' i h3)
theorem Reps.rep {ds : List D} {vs : List V} (h : Reps K B ds vs) : ∀ k : Nat, Reps K B (List.replicate k ds).flatten (List.replicate k vs).flatten
  | 0 => by rw [List.replicate_zero, List.replicate_zero]; exact reps_nil
  | k + 1 => by
    rw [List.replicate_succ,
      List.replicate_succ, List.flatten_cons, List.flatten_cons]
    exact h.append (Reps.rep h k)
theorem Reps.reverse : ∀ {ds : List D} {vs : List V}, Reps K B ds vs → Reps K B ds.reverse vs.reverse
  | [], vs, h => by rw [Reps] at h; subst h; exact reps_nil
  | d :: ds, vs, h => by
    rw [Reps] at h; obtain ⟨v, us, rfl, h2, h3⟩ := h
    rw [List.reverse_cons,
      List.reverse_cons]
    exact (Reps.reverse h3).append (reps_cons h2 reps_nil)
theorem rep_int {i : Int} : Rep K B (.int i) (.int i) := by rw [Rep]
theorem rep_bl {b : Bool} : Rep K B (.bl b) (.bl b) := by rw [Rep]
theorem rep_str {x : Str} : Rep K B (.str x) (.str x) := by rw [Rep]
theorem rep_non : Rep K B .non .non := by rw [Rep]
theorem reps_ints : ∀ {ns : List Int} {vs : List V}, Reps K B (ns.map D.int) vs → vs = ns.map V.int
  | [], vs, h => by rw [List.map_nil, Reps] at h; rw [h]; rfl
  | n :: ns, vs, h => by
    rw [List.map_cons, Reps] at h; obtain ⟨v, us, rfl, h2, h3⟩ := h
    rw [Rep] at h2; rw [h2, reps_ints h3]; rfl
theorem reps_of_ints : ∀ (ns : List Int), Reps K B (ns.map D.int) (ns.map V.int)
  | [] => reps_nil
  | n :: ns => reps_cons rep_int (reps_of_ints ns)
end
/-- data that is no object -/
def flat : D → Bool
  | .non => true | .bl _ => true | .int _ => true | .str _ => true | .exo _ => true | _ => false
theorem Rep.flat {K : PySem.W.Frag} {B B' : Hp} {d : D} {v : V} (f : flat d = true) (h : Rep K B d v) : Rep K B' d v := by
  cases d <;> first | (rw [Rep] at *; exact h) | (cases f)
/-! ### ownership -/
inductive All3 {α β γ : Type} (R : α → β → γ → Prop) : List α → List β → List γ → Prop where
  | nil : All3 R [] [] []
  | cons {a : α} {b : β} {c : γ} {as : List α} {bs : List β} {cs : List γ} : R a b c → All3 R as bs cs → All3 R (a :: as) (b :: bs) (c :: cs)
section
variable {α β γ : Type} {R S : α → β → γ → Prop}
theorem All3.imp {as : List α} {bs : List β} {cs : List γ} (h : All3 R as bs cs) (k : ∀ a b c, c ∈ cs → R a b c → S a b c) : All3 S as bs cs := by
  induction h with
  | nil => exact .nil
  | cons r t ih => exact .cons (k _ _ _ List.mem_cons_self r) (ih fun a b c hc => k a b c (List.mem_cons_of_mem _ hc))
theorem All3.len1 {as : List α} {bs : List β} {cs : List γ} (h : All3 R as bs cs) : as.length = bs.length := by
  induction h with
  | nil => rfl
  | cons r t ih => rw [List.length_cons, List.length_cons, ih]
theorem All3.len2 {as : List α} {bs : List β} {cs : List γ} (h : All3 R as bs cs) : as.length = cs.length := by
  induction h with
  | nil => rfl
  | cons r t ih => rw [List.length_cons, List.length_cons, ih]
theorem All3.get {as : List α} {bs : List β} {cs : List γ} (h : All3 R as bs cs) : ∀ {i : Nat} {a : α}, as[i]? = some a → ∃ b c, bs[i]? = some b ∧ cs[i]? = some c ∧ R a b c := by
  induction h with
  | nil =>
    intro i a e; simp at e
  | cons r t ih =>
    intro i a e
    cases i with
    | zero => simp at e; subst e; exact ⟨_, _, by simp, by simp, r⟩
    | succ i =>
      obtain ⟨b, c, h1, h2, h3⟩ := ih (i := i) (a := a) (by simpa using e)
      exact ⟨b, c, by simpa using h1, by simpa using h2, h3⟩
theorem All3.set {as : List α} {bs : List β} {cs : List γ} (h : All3 R as bs cs) {a : α} {b : β} {c : γ} (r : R a b c) : ∀ i : Nat, All3 R (as.set i a) (bs.set i b) (cs.set i c) := by
  induction h with
  | nil => intro i; exact .nil
  | cons r0 t ih =>
    intro i
    cases i with
    | zero => exact .cons r t
    | succ i => exact .cons r0 (ih i)
theorem All3.append {as as' : List α} {bs bs' : List β} {cs cs' : List γ} (h : All3 R as bs cs) (h' : All3 R as' bs' cs') : All3 R (as ++ as') (bs ++ bs') (cs ++ cs') := by
  induction h with
  | nil => exact h'
  | cons r t ih => exact .cons r ih
end
/-- what may change: a list, an object, a dict -/
def Mut (o : Option HO) : Prop := (∃ xs, o = some (.lst xs)) ∨ (∃ C dx fs, o = some (.ins C dx fs)) ∨ (∃ xs, o = some (.dK xs)) ∨ ∃ φ, o = some (.ext φ)
theorem Mut.some {o : Option HO} (h : Mut o) : ∃ u, o = some u := by
  rcases h with ⟨xs, e⟩ | ⟨C, dx, fs, e⟩ | ⟨xs, e⟩ | ⟨φ, e⟩
  · exact ⟨_, e⟩
  · exact ⟨_, e⟩
  · exact ⟨_, e⟩
  · exact ⟨_, e⟩
theorem Mut.le {H H' : Hp} {a : Addr} (h : Mut (H a)) (e : Le H H') : Mut (H' a) := by
  rcases h with ⟨xs, q⟩ | ⟨C, dx, fs, q⟩ | ⟨xs, q⟩ | ⟨φ, q⟩
  · exact .inl ⟨_, e _ _ q⟩
  · exact .inr (.inl ⟨_, _, _, e _ _ q⟩)
  · exact .inr (.inr (.inl ⟨_, e _ _ q⟩))
  · exact .inr (.inr (.inr ⟨_, e _ _ q⟩))
/-- d is owned n levels deep: the cells fp are the owner's alone; below, it is read in B; of a tuple the lists are owned, one level less deep -/
def isL : D → Bool
  | .lst _ => true
  | .ob _ _ => true
  | .dk _ => true
  | .dt _ => true
  | _ => false
/-- what has no parts -/
def isA : D → Bool
  | .lst _ => false
  | .tup _ => false
  | .ob _ _ => false
  | .dk _ => false
  | .dt _ => false
  | _ => true
def Ow (K : PySem.W.Frag) (B H : Hp) : Nat → D → V → List Addr → Prop
  | 0, d, v, fp => fp = [] ∧ Rep K B d v
  | n + 1, d, v, fp => (∃ ds p xs fps, d = .lst ds ∧ v = .ref p ∧ H p = some (.lst xs) ∧ fp = p :: fps.flatten ∧ All3 (Ow K B H n) ds xs fps) ∨
    (∃ ds p xs fps, d = .tup ds ∧ v = .ref p ∧ TX B p xs ∧ fp = fps.flatten ∧ All3 (fun d v fp => (isL d = true ∧ Ow K B H n d v fp) ∨ (isL d = false ∧ fp = [] ∧ Rep K B d v)) ds xs fps) ∨
    (∃ C fs p dx gs fps, d = .ob C fs ∧ v = .ref p ∧ H p = some (.ins C dx gs) ∧ fp = p :: fps.flatten ∧ All3 (fun (d : Str × D) (v : Str × V) fp => d.1 = v.1 ∧ ((isL d.2 = true ∧ Ow K B H n d.2 v.2 fp) ∨ (isL d.2 = false ∧ fp = [] ∧ Rep K B d.2 v.2))) fs gs fps) ∨
    (∃ kvs p xs fps, d = .dk kvs ∧ v = .ref p ∧ H p = some (.dK xs) ∧ fp = p :: fps.flatten ∧ All3 (fun (d : Key × D) (v : Key × V) fp => d.1 = v.1 ∧ Ow K B H n d.2 v.2 fp) kvs xs fps) ∨
    (∃ kvs p xs fps, d = .dt kvs ∧ v = .ref p ∧ H p = some (.ext (DTo p xs)) ∧ fp = p :: fps.flatten ∧ All3 (fun (d : NestedKey × D) (v : NestedKey × Addr × V) fp => d.1 = v.1 ∧ KeyAt B d.1 (.ref v.2.1) ∧ Ow K B H n d.2 v.2.2 fp) kvs xs fps) ∨
    (isA d = true ∧ fp = [] ∧ Rep K B d v)
/-- the same, borrowed -/
def Bw (K : PySem.W.Frag) (B H : Hp) (n : Nat) (d : D) (v : V) : Prop := ∃ fp, Ow K B H n d v fp
section
variable {K : PySem.W.Frag} {B B' H H' : Hp}
theorem mem_fl {a : Addr} {c : List Addr} {cs : List (List Addr)} (h : c ∈ cs) (ha : a ∈ c) : a ∈ cs.flatten := List.mem_flatten.mpr ⟨c, h, ha⟩
theorem all3_mem {α β γ : Type} {R : α → β → γ → Prop} {P : Prop} {cs : List γ} {c : γ} (hc : c ∈ cs) {as : List α} {bs : List β} (h : All3 R as bs cs) (k : ∀ a b, R a b c → P) : P := by
  induction h with
  | nil => cases hc
  | cons r t ih =>
    rcases List.mem_cons.mp hc with e | e
    · subst e; exact k _ _ r
    · exact ih e
theorem Ow.at : ∀ {n : Nat} {d : D} {v : V} {fp : List Addr}, Ow K B H n d v fp → ∀ a ∈ fp, Mut (H a)
  | 0, d, v, fp, h, a, ha => by obtain ⟨rfl, _⟩ := h; cases ha
  | n + 1, d, v, fp, h, a, ha => by
    obtain ⟨ds, p, xs, fps, rfl, rfl, hp, rfl, al⟩ | ⟨ds, p, xs, fps, rfl, rfl, hp, rfl, al⟩ | ⟨C, fs, p, dx, gs, fps, rfl, rfl, hp, rfl, al⟩ | ⟨kvs, p, xs, fps, rfl, rfl, hp, rfl, al⟩ | ⟨kvs, p, xs, fps, rfl, rfl, hp, rfl, al⟩ | ⟨hA, rfl, hr⟩ := h
    · rcases List.mem_cons.mp ha with e | e
      · subst e; exact .inl ⟨_, hp⟩
      · obtain ⟨c, hc, hac⟩ := List.mem_flatten.mp e
        exact all3_mem hc al fun x y r => Ow.at r a hac
    · obtain ⟨c, hc, hac⟩ := List.mem_flatten.mp ha
      refine all3_mem hc al fun x y r => ?_
      obtain ⟨_, r⟩ | ⟨_, r, _⟩ := r
      · exact Ow.at r a hac
      · rw [r] at hac; cases hac
    · rcases List.mem_cons.mp ha with e | e
      · subst e; exact .inr (.inl ⟨_, _, _, hp⟩)
      · obtain ⟨c, hc, hac⟩ := List.mem_flatten.mp e
        refine all3_mem hc al fun x y r => ?_
        obtain ⟨_, ⟨_, r⟩ | ⟨_, r, _⟩⟩ := r
        · exact Ow.at r a hac
        · rw [r] at hac; cases hac
    · rcases List.mem_cons.mp ha with e | e
      · subst e; exact .inr (.inr (.inl ⟨_, hp⟩))
      · obtain ⟨c, hc, hac⟩ := List.mem_flatten.mp e
        exact all3_mem hc al fun x y r => Ow.at r.2 a hac
    · rcases List.mem_cons.mp ha with e | e
      · subst e; exact .inr (.inr (.inr ⟨_, hp⟩))
      · obtain ⟨c, hc, hac⟩ := List.mem_flatten.mp e
        exact all3_mem hc al fun x y r => Ow.at r.2.2 a hac
    · cases ha
theorem Ow.mono (eB : Le B B') : ∀ {n : Nat} {d : D} {v : V} {fp : List Addr}, Ow K B H n d v fp → (∀ a ∈ fp, H' a = H a) → Ow K B' H' n d v fp
  | 0, d, v, fp, h, _ => ⟨h.1, Rep.mono eB _ _ h.2⟩
  | n + 1, d, v, fp, h, k => by
    obtain ⟨ds, p, xs, fps, rfl, rfl, hp, rfl, al⟩ | ⟨ds, p, xs, fps, rfl, rfl, hp, rfl, al⟩ | ⟨C, fs, p, dx, gs, fps, rfl, rfl, hp, rfl, al⟩ | ⟨kvs, p, xs, fps, rfl, rfl, hp, rfl, al⟩ | ⟨kvs, p, xs, fps, rfl, rfl, hp, rfl, al⟩ | ⟨hA, rfl, hr⟩ := h
    · refine .inl ⟨ds, p, xs, fps, rfl, rfl, ?_, rfl, al.imp fun a b c hc r => Ow.mono eB r fun x hx => k x (List.mem_cons_of_mem _ (mem_fl hc hx))⟩
      rw [k p List.mem_cons_self]; exact hp
    · exact .inr (.inl ⟨ds, p, xs, fps, rfl, rfl, eB.tx hp, rfl, al.imp fun a b c hc r => r.imp (fun q => ⟨q.1, Ow.mono eB q.2 fun x hx => k x (mem_fl hc hx)⟩) fun q => ⟨q.1, q.2.1, Rep.mono eB _ _ q.2.2⟩⟩)
    · refine .inr (.inr (.inl ⟨C, fs, p, dx, gs, fps, rfl, rfl, ?_, rfl, al.imp fun a b c hc r => ⟨r.1, r.2.imp (fun q => ⟨q.1, Ow.mono eB q.2 fun x hx => k x (List.mem_cons_of_mem _ (mem_fl hc hx))⟩) fun q => ⟨q.1, q.2.1, Rep.mono eB _ _ q.2.2⟩⟩⟩))
      rw [k p List.mem_cons_self]; exact hp
    · refine .inr (.inr (.inr (.inl ⟨kvs, p, xs, fps, rfl, rfl, ?_, rfl, al.imp fun a b c hc r => ⟨r.1, Ow.mono eB r.2 fun x hx => k x (List.mem_cons_of_mem _ (mem_fl hc hx))⟩⟩)))
      rw [k p List.mem_cons_self]; exact hp
    · refine .inr (.inr (.inr (.inr (.inl ⟨kvs, p, xs, fps, rfl, rfl, ?_, rfl, al.imp fun a b c hc r => ⟨r.1, KeyAt.mono eB _ _ r.2.1, Ow.mono eB r.2.2 fun x hx => k x (List.mem_cons_of_mem _ (mem_fl hc hx))⟩⟩))))
      rw [k p List.mem_cons_self]; exact hp
    · exact .inr (.inr (.inr (.inr (.inr ⟨hA, rfl, Rep.mono eB _ _ hr⟩))))
theorem Ow.le (eB : Le B B') (eH : Le H H') {n : Nat} {d : D} {v : V} {fp : List Addr} (h : Ow K B H n d v fp) : Ow K B' H' n d v fp :=
  h.mono eB fun a ha => by obtain ⟨xs, e⟩ := (h.at a ha).some; rw [e, eH _ _ e]
theorem Bw.le (eB : Le B B') (eH : Le H H') {n : Nat} {d : D} {v : V} (h : Bw K B H n d v) : Bw K B' H' n d v := let ⟨fp, q⟩ := h; ⟨fp, q.le eB eH⟩
theorem Ow.bw {n : Nat} {d : D} {v : V} {fp : List Addr} (h : Ow K B H n d v fp) : Bw K B H n d v := ⟨fp, h⟩
theorem Bw.rep {d : D} {v : V} (h : Bw K B H 0 d v) : Rep K B d v := let ⟨_, q⟩ := h; q.2
theorem Bw.repA {n : Nat} {d : D} {v : V} (hd : isA d = true) (h : Bw K B H n d v) : Rep K B d v := by
  obtain ⟨fp, h⟩ := h
  cases n with
  | zero => exact h.2
  | succ n =>
    obtain ⟨_, _, _, _, z, _⟩ | ⟨_, _, _, _, z, _⟩ | ⟨_, _, _, _, _, _, z, _⟩ | ⟨_, _, _, _, z, _⟩ | ⟨_, _, _, _, z, _⟩ | ⟨_, _, r⟩ := h
    case inr.inr.inr.inr.inr => exact r
    all_goals (subst z; cases hd)
theorem bw0 {d : D} {v : V} (h : Rep K B d v) : Bw K B H 0 d v := ⟨[], rfl, h⟩
theorem all_repF {R : Str × D → Str × V → List Addr → Prop} {G : Hp} {ds : List (Str × D)} {xs : List (Str × V)} {fps : List (List Addr)} (h : All3 R ds xs fps) : (∀ d v c, c ∈ fps → R d v c → d.1 = v.1 ∧ Rep K G d.2 v.2) → RepF K G ds xs := by
  induction h with
  | nil => intro _; rw [RepF]
  | cons r t ih =>
    intro k
    obtain ⟨e, q⟩ := k _ _ _ List.mem_cons_self r
    rename_i a b c as bs cs
    obtain ⟨n, d⟩ := a
    obtain ⟨m, v⟩ := b
    cases e
    rw [RepF]
    exact ⟨v, bs, rfl, q, ih fun d v c hc r => k d v c (List.mem_cons_of_mem _ hc) r⟩
theorem all_repK {R : Key × D → Key × V → List Addr → Prop} {G : Hp} {ds : List (Key × D)} {xs : List (Key × V)} {fps : List (List Addr)} (h : All3 R ds xs fps) : (∀ d v c, c ∈ fps → R d v c → d.1 = v.1 ∧ Rep K G d.2 v.2) → RepK K G ds xs := by
  induction h with
  | nil => intro _; rw [RepK]
  | cons r t ih =>
    intro k
    obtain ⟨e, q⟩ := k _ _ _ List.mem_cons_self r
    rename_i a b c as bs cs
    obtain ⟨n, d⟩ := a
    obtain ⟨m, v⟩ := b
    cases e
    rw [RepK]
    exact ⟨v, bs, rfl, q, ih fun d v c hc r => k d v c (List.mem_cons_of_mem _ hc) r⟩
theorem all_repT {R : NestedKey × D → NestedKey × Addr × V → List Addr → Prop} {G : Hp} {ds : List (NestedKey × D)} {xs : List (NestedKey × Addr × V)} {fps : List (List Addr)} (h : All3 R ds xs fps) : (∀ d v c, c ∈ fps → R d v c → d.1 = v.1 ∧ KeyAt G d.1 (.ref v.2.1) ∧ Rep K G d.2 v.2.2) → RepT K G ds xs := by
  induction h with
  | nil => intro _; rw [RepT]
  | cons r t ih =>
    intro k
    obtain ⟨e, q1, q⟩ := k _ _ _ List.mem_cons_self r
    rename_i a b c as bs cs
    obtain ⟨n, d⟩ := a
    obtain ⟨m, x, v⟩ := b
    cases e
    rw [RepT]
    exact ⟨x, v, bs, rfl, q1, q, ih fun d v c hc r => k d v c (List.mem_cons_of_mem _ hc) r⟩
theorem all_repS {R : D → V → List Addr → Prop} {G : Hp} {ds : List D} {xs : List V} {fps : List (List Addr)} (h : All3 R ds xs fps) : (∀ d v c, c ∈ fps → R d v c → Rep K G d v) → Reps K G ds xs := by
  induction h with
  | nil => intro _; exact reps_nil
  | cons r t ih => intro k; exact reps_cons (k _ _ _ List.mem_cons_self r) (ih fun d v c hc r => k d v c (List.mem_cons_of_mem _ hc) r)
/-- what is owned is read in any heap that has the base and the owned cells -/
theorem frz_rep : ∀ {n : Nat} {d : D} {v : V} {fp : List Addr} (G : Hp), Le B G → (∀ a ∈ fp, G a = H a) → Ow K B H n d v fp → Rep K G d v
  | 0, d, v, fp, G, e, _, h => Rep.mono e _ _ h.2
  | n + 1, d, v, fp, G, e, k, h => by
    obtain ⟨ds, p, xs, fps, rfl, rfl, hp, rfl, al⟩ | ⟨ds, p, xs, fps, rfl, rfl, hp, rfl, al⟩ | ⟨C, fs, p, dx, gs, fps, rfl, rfl, hp, rfl, al⟩ | ⟨kvs, p, xs, fps, rfl, rfl, hp, rfl, al⟩ | ⟨kvs, p, xs, fps, rfl, rfl, hp, rfl, al⟩ | ⟨hA, rfl, hr⟩ := h
    · rw [Rep]
      exact ⟨p, xs, rfl, by rw [k p List.mem_cons_self]; exact hp, all_repS al fun d v c hc r => frz_rep G e (fun a ha => k a (List.mem_cons_of_mem _ (mem_fl hc ha))) r⟩
    · rw [Rep]
      exact ⟨p, xs, rfl, e.tx hp, all_repS al fun d v c hc r => r.elim (fun q => frz_rep G e (fun a ha => k a (mem_fl hc ha)) q.2) fun q => Rep.mono e _ _ q.2.2⟩
    · rw [Rep]
      exact ⟨p, dx, gs, rfl, by rw [k p List.mem_cons_self]; exact hp, all_repF al fun d v c hc r => ⟨r.1, r.2.elim (fun q => frz_rep G e (fun a ha => k a (List.mem_cons_of_mem _ (mem_fl hc ha))) q.2) fun q => Rep.mono e _ _ q.2.2⟩⟩
    · rw [Rep]
      exact ⟨p, xs, rfl, by rw [k p List.mem_cons_self]; exact hp, all_repK al fun d v c hc r => ⟨r.1, frz_rep G e (fun a ha => k a (List.mem_cons_of_mem _ (mem_fl hc ha))) r.2⟩⟩
    · rw [Rep]
      exact ⟨p, xs, rfl, by rw [k p List.mem_cons_self]; exact hp, all_repT al fun d v c hc r => ⟨r.1, KeyAt.mono e _ _ r.2.1, frz_rep G e (fun a ha => k a (List.mem_cons_of_mem _ (mem_fl hc ha))) r.2.2⟩⟩
    · exact Rep.mono e _ _ hr
/-- a borrowed thing is read in the heap as it stands -/
theorem Ow.here (eBH : Le B H) {n : Nat} {d : D} {v : V} {fp : List Addr} (h : Ow K B H n d v fp) : Rep K H d v := frz_rep H eBH (fun _ _ => rfl) h
theorem Bw.here (eBH : Le B H) {n : Nat} {d : D} {v : V} (h : Bw K B H n d v) : Rep K H d v := let ⟨_, q⟩ := h; q.here eBH
/-- a list, borrowed: its cell and its items -/
theorem Bw.list (eBH : Le B H) {n : Nat} {ds : List D} {v : V} (h : Bw K B H n (.lst ds) v) : ∃ p xs, v = .ref p ∧ H p = some (.lst xs) ∧ ds.length = xs.length ∧ ∀ (i : Nat) d, ds[i]? = some d → ∃ x, xs[i]? = some x ∧ Bw K B H (n - 1) d x := by
  obtain ⟨fp, h⟩ := h
  cases n with
  | zero =>
    obtain ⟨_, h⟩ := h
    rw [Rep] at h
    obtain ⟨a, xs, h1, h2, h3⟩ := h
    exact ⟨a, xs, h1, eBH _ _ h2, h3.length, fun i d e => let ⟨x, q1, q2⟩ := h3.get e; ⟨x, q1, bw0 q2⟩⟩
  | succ n =>
    obtain ⟨ds', p, xs, fps, e, h1, hp, _, al⟩ | ⟨_, _, _, _, e, _⟩ | ⟨_, _, _, _, _, _, e, _⟩ | ⟨_, _, _, _, e, _⟩ | ⟨_, _, _, _, e, _⟩ | ⟨e, _⟩ := h
    · cases e
      exact ⟨p, xs, h1, hp, al.len1, fun i d e => let ⟨x, c, q1, _, q3⟩ := al.get e; ⟨x, q1, q3.bw⟩⟩
    all_goals cases e
theorem Bw.flat {n : Nat} {d : D} {v : V} (f : flat d = true) (h : Bw K B H n d v) : Rep K B' d v := by
  obtain ⟨fp, h⟩ := h
  cases n with
  | zero => exact h.2.flat f
  | succ n =>
    obtain ⟨ds', p, xs, fps, e, _⟩ | ⟨ds', p, xs, fps, e, _⟩ | ⟨_, _, _, _, _, _, e, _⟩ | ⟨_, _, _, _, e, _⟩ | ⟨_, _, _, _, e, _⟩ | ⟨_, _, hr⟩ := h
    case inr.inr.inr.inr.inr => exact hr.flat f
    all_goals (subst e; cases f)
/-- what is owned and is a list -/
theorem Ow.lstO {n : Nat} {ds : List D} {v : V} {fp : List Addr} (h : Ow K B H (n + 1) (.lst ds) v fp) : ∃ ds' p xs fps, (D.lst ds) = .lst ds' ∧ v = .ref p ∧ H p = some (.lst xs) ∧ fp = p :: fps.flatten ∧ All3 (Ow K B H n) ds' xs fps := by
  obtain h | ⟨_, _, _, _, e, _⟩ | ⟨_, _, _, _, _, _, e, _⟩ | ⟨_, _, _, _, e, _⟩ | ⟨_, _, _, _, e, _⟩ | ⟨e, _⟩ := h
  · exact h
  all_goals cases e
/-- what has no parts is owned at any level -/
theorem Ow.ofA {d : D} {v : V} (hd : isA d = true) (h : Rep K B d v) : ∀ n, Ow K B H n d v []
  | 0 => ⟨rfl, h⟩
  | n + 1 => .inr (.inr (.inr (.inr (.inr ⟨hd, rfl, h⟩))))
end
/-! ### slots, states -/
/-- a slot: unset; a value, owned n levels deep; the same, its reference known; an object under construction -/
inductive Sl where
  | un
  | v (n : Nat) (d : D)
  | o (w : V) (n : Nat) (d : D)
  | s (a C : Addr) (fs : List (Str × D))
abbrev En := List Sl
def slotOk (K : PySem.W.Frag) (B H : Hp) : Sl → Option V → List Addr → Prop
  | .un, _, fp => fp = []
  | .v n d, o, fp => ∃ v, o = some v ∧ Ow K B H n d v fp
  | .o w n d, o, fp => o = some w ∧ Ow K B H n d w fp
  | .s a C fs, o, fp => o = some (.ref a) ∧ fp = [a] ∧ ∃ dx gs, H a = some (.ins C dx gs) ∧ RepF K B fs gs
/-- from (B, H) to (B', H'): both grow, the base only by what is new -/
structure Stp (B H B' H' : Hp) : Prop where
  bb : Le B B'
  hh : Le H H'
  bh : Le B' H'
  dj : ∀ a, B a = none → Mut (H a) → B' a = none
theorem Stp.refl {B H : Hp} (h : Le B H) : Stp B H B H := ⟨Le.refl _, Le.refl _, h, fun _ e _ => e⟩
theorem Stp.trans {B H B1 H1 B2 H2 : Hp} (a : Stp B H B1 H1) (b : Stp B1 H1 B2 H2) : Stp B H B2 H2 :=
  ⟨a.bb.trans b.bb, a.hh.trans b.hh, b.bh, fun x e n => b.dj x (a.dj x e n) (n.le a.hh)⟩
/-- the state ahead of a pure expression -/
structure Pi (K : PySem.W.Frag) (B : Hp) (σ : St) (H : Hp) (ss : En) (fps : List (List Addr)) : Prop where
  bh : Le B H
  al : All3 (slotOk K B H) ss σ fps
  nd : fps.flatten.Nodup
  fr : ∀ a ∈ fps.flatten, B a = none
section
variable {K : PySem.W.Frag} {B B' H H' : Hp} {σ : St} {ss : En} {fps : List (List Addr)}
theorem slotOk.at {s : Sl} {o : Option V} {fp : List Addr} (h : slotOk K B H s o fp) : ∀ a ∈ fp, Mut (H a) := by
  cases s with
  | un => intro a ha; rw [show fp = [] from h] at ha; cases ha
  | v n d => obtain ⟨v, _, q⟩ := h; exact fun a ha => q.at a ha
  | o w n d => exact fun a ha => h.2.at a ha
  | s x C fs =>
    obtain ⟨_, rfl, dx, gs, q, _⟩ := h
    intro a ha
    rw [List.mem_singleton.mp ha]
    exact .inr (.inl ⟨_, _, _, q⟩)
theorem slotOk.mono (eB : Le B B') {s : Sl} {o : Option V} {fp : List Addr} (h : slotOk K B H s o fp) (k : ∀ a ∈ fp, H' a = H a) : slotOk K B' H' s o fp := by
  cases s with
  | un => exact h
  | v n d => obtain ⟨v, e, q⟩ := h; exact ⟨v, e, q.mono eB k⟩
  | o w n d => exact ⟨h.1, h.2.mono eB k⟩
  | s x C fs =>
    obtain ⟨e, rfl, dx, gs, q, r⟩ := h
    exact ⟨e, rfl, dx, gs, by rw [k x (List.mem_singleton.mpr rfl)]; exact q, RepF.mono eB _ _ r⟩
theorem Pi.here (h : Pi K B σ H ss fps) : ∀ a ∈ fps.flatten, Mut (H a) := fun a ha => by
  obtain ⟨c, hc, hac⟩ := List.mem_flatten.mp ha
  have : ∀ {as : En} {bs : St} {cs : List (List Addr)}, All3 (slotOk K B H) as bs cs → c ∈ cs → Mut (H a) := fun h => by
    induction h with
    | nil => intro z; cases z
    | cons r t ih =>
      intro z
      rcases List.mem_cons.mp z with e | e
      · subst e; exact r.at a hac
      · exact ih e
  exact this h.al hc
theorem Pi.step (h : Pi K B σ H ss fps) (s : Stp B H B' H') : Pi K B' σ H' ss fps := by
  have k : ∀ a ∈ fps.flatten, H' a = H a := fun a ha => by
    obtain ⟨u, e⟩ := (h.here a ha).some; rw [e, s.hh _ _ e]
  refine ⟨s.bh, h.al.imp fun a b c hc r => r.mono s.bb fun x hx => k x (mem_fl hc hx), h.nd, fun a ha => s.dj a (h.fr a ha) (h.here a ha)⟩
theorem Pi.get (h : Pi K B σ H ss fps) {i n : Nat} {d : D} (e : ss[i]? = some (.v n d)) : ∃ v, σ[i]? = some (some v) ∧ Bw K B H n d v := by
  obtain ⟨o, c, h1, h2, v, h3, h4⟩ := h.al.get e
  subst h3
  exact ⟨v, h1, h4.bw⟩
end
/-- what a fresh result is: owned, its cells new against H0 -/
structure New (K : PySem.W.Frag) (H0 B H : Hp) (n : Nat) (d : D) (v : V) (fp : List Addr) : Prop where
  ow : Ow K B H n d v fp
  nd : fp.Nodup
  fr : ∀ a ∈ fp, B a = none ∧ H0 a = none
/-! ### freezing -/
def frzH (B H : Hp) (fp : List Addr) : Hp := fun a => if a ∈ fp then H a else B a
section
variable {K : PySem.W.Frag} {B B' H H0 H' : Hp}
theorem frz_le {fp : List Addr} (h : ∀ a ∈ fp, B a = none) : Le B (frzH B H fp) := fun a o e => by
  unfold frzH
  by_cases ha : a ∈ fp
  · rw [h a ha] at e; cases e
  · rw [if_neg ha]; exact e
theorem frz_in {fp : List Addr} (h : Le B H) : Le (frzH B H fp) H := fun a o e => by
  unfold frzH at e
  by_cases ha : a ∈ fp
  · rw [if_pos ha] at e; exact e
  · rw [if_neg ha] at e; exact h a o e
theorem frz_at {fp : List Addr} {a : Addr} (ha : a ∈ fp) : frzH B H fp a = H a := by unfold frzH; rw [if_pos ha]
theorem frz_out {fp : List Addr} {a : Addr} (ha : a ∉ fp) : frzH B H fp a = B a := by unfold frzH; rw [if_neg ha]
/-- a fresh result becomes part of the base -/
theorem New.freeze {n : Nat} {d : D} {v : V} {fp : List Addr} (h : New K H0 B H n d v fp) (e : Le B H) :
    ∃ B', Le B B' ∧ Le B' H ∧ Rep K B' d v ∧ ∀ a, B a = none → Mut (H0 a) → B' a = none :=
  ⟨frzH B H fp, frz_le fun a ha => (h.fr a ha).1, frz_in e, frz_rep _ (frz_le fun a ha => (h.fr a ha).1) (fun a ha => frz_at ha) h.ow, fun a e1 e2 => by
    rw [frz_out fun ha => by obtain ⟨u, z⟩ := e2.some; rw [(h.fr a ha).2] at z; cases z]; exact e1⟩
end
/-! ### what is said of an exception -/
structure Exo where
  C : Addr
  fs : Option (List (Str × D))
def ExR (K : PySem.W.Frag) (B H : Hp) (e : Exo) (cls : Value) (d : Option Addr) : Prop :=
  cls = .ref e.C ∧ match e.fs with
    | none => d = none
    | some fs => ∃ dd gs, d = some dd ∧ H dd = some (.xd gs) ∧ RepF K B fs gs
inductive Res (α : Type) where
  | ok (a : α) | exc (e : Exo) | no
inductive SO where
  | nx (ss : En) | rt (n : Nat) (d : D) | bk (ss : En) | ct (ss : En) | exc (e : Exo) (ss : En) | ru (d : D) (ss : En) | rn (n : Nat) (d : D) (ss : En) | no
namespace Res
def bind {α β : Type} (r : Res α) (f : α → Res β) : Res β := match r with
  | ok a => f a
  | exc e => exc e
  | no => no
end Res
abbrev EB := En → Res (Nat × D)
abbrev ET := En → Res Bool
abbrev EA := En → Res (List D)
abbrev SM := En → SO
/-- a pure expression's reading: a borrowed value -/
def tB (K : PySem.W.Frag) (W : WX) (f : EB) : TE := fun σ H Q => ∃ B ss fps, Pi K B σ H ss fps ∧ match f ss with
  | .ok (n, d) => ∀ B' v H', Stp B H B' H' → Bw K B' H' n d v → Q v H'
  | .exc e => ∀ B' cls dd H', Stp B H B' H' → ExR K B' H' e cls dd → W cls dd σ H'
  | .no => False
/-- a fresh value -/
def tM (K : PySem.W.Frag) (W : WX) (f : EB) : TE := fun σ H Q => ∃ B ss fps, Pi K B σ H ss fps ∧ match f ss with
  | .ok (n, d) => ∀ B' v H' fp, Stp B H B' H' → New K H B' H' n d v fp → Q v H'
  | .exc e => ∀ B' cls dd H', Stp B H B' H' → ExR K B' H' e cls dd → W cls dd σ H'
  | .no => False
/-- a test -/
def tT (K : PySem.W.Frag) (W : WX) (f : ET) : TT := fun σ H Q => ∃ B ss fps, Pi K B σ H ss fps ∧ match f ss with
  | .ok b => ∀ B' H', Stp B H B' H' → Q b H'
  | .exc e => ∀ B' cls dd H', Stp B H B' H' → ExR K B' H' e cls dd → W cls dd σ H'
  | .no => False
/-- arguments, each part of the base -/
def tA (K : PySem.W.Frag) (W : WX) (f : EA) : TA := fun σ H Q => ∃ B ss fps, Pi K B σ H ss fps ∧ match f ss with
  | .ok ds => ∀ B' vs H', Stp B H B' H' → Reps K B' ds vs → Q vs H'
  | .exc e => ∀ B' cls dd H', Stp B H B' H' → ExR K B' H' e cls dd → W cls dd σ H'
  | .no => False
/-- arguments, borrowed: read in the heap -/
def tAh (K : PySem.W.Frag) (W : WX) (f : EA) : TA := fun σ H Q => ∃ B ss fps, Pi K B σ H ss fps ∧ match f ss with
  | .ok ds => ∀ B' vs H', Stp B H B' H' → Reps K H' ds vs → Q vs H'
  | .exc e => ∀ B' cls dd H', Stp B H B' H' → ExR K B' H' e cls dd → W cls dd σ H'
  | .no => False
/-- the state of a def's body: entered at (B0, H0) -/
structure SI (K : PySem.W.Frag) (B0 H0 B : Hp) (σ : St) (H : Hp) (ss : En) (fps : List (List Addr)) : Prop where
  pi : Pi K B σ H ss fps
  st : Stp B0 H0 B H
  fr : ∀ a ∈ fps.flatten, H0 a = none
section
variable {K : PySem.W.Frag} {B0 H0 B B' H H' : Hp} {σ : St} {ss : En} {fps : List (List Addr)}
theorem SI.step (h : SI K B0 H0 B σ H ss fps) (s : Stp B H B' H') : SI K B0 H0 B' σ H' ss fps := ⟨h.pi.step s, h.st.trans s, h.fr⟩
end
/-- a returned value that is owned beside what the slots own -/
structure Rw (K : PySem.W.Frag) (H0 B H : Hp) (n : Nat) (d : D) (v : V) (fp : List Addr) (fps : List (List Addr)) : Prop where
  ow : Ow K B H n d v fp
  nd : fp.Nodup
  fr : ∀ a ∈ fp, a ∉ fps.flatten ∧ B a = none ∧ H0 a = none
/-- a statement's reading -/
def tS (K : PySem.W.Frag) (W : WX) (F : SM) : TS := fun E σ H => ∃ B0 H0 B ss fps, SI K B0 H0 B σ H ss fps ∧ match F ss with
  | .nx ss' => ∀ B' σ' H' fps', SI K B0 H0 B' σ' H' ss' fps' → E.nx σ' H'
  | .bk ss' => ∀ B' σ' H' fps', SI K B0 H0 B' σ' H' ss' fps' → E.bk σ' H'
  | .ct ss' => ∀ B' σ' H' fps', SI K B0 H0 B' σ' H' ss' fps' → E.ct σ' H'
  | .rt n d => ∀ B' v H' fp, Stp B0 H0 B' H' → New K H0 B' H' n d v fp → E.rt v H'
  | .exc e ss' => ∀ B' σ' H' fps' cls dd, SI K B0 H0 B' σ' H' ss' fps' → ExR K B' H' e cls dd → W cls dd σ' H'
  | .ru d ss' => ∀ B' v σ' H' fps', SI K B0 H0 B' σ' H' ss' fps' → Rep K B' d v → E.rt v H'
  | .rn n d ss' => ∀ B' v σ' H' fps' fp, SI K B0 H0 B' σ' H' ss' fps' → Rw K H0 B' H' n d v fp fps' → E.rt v H'
  | .no => False
/-! ### weakening -/
theorem pe_w {X : Cx} {e : Expr} {t u : TE} (h : PE X e t) (k : ∀ σ H Q, u σ H Q → t σ H Q) : PE X e u := ⟨fun pins s σ H Q I q => h.run pins s σ H Q I (k σ H Q q)⟩
theorem pt_w {X : Cx} {e : Expr} {t u : TT} (h : PT X e t) (k : ∀ σ H Q, u σ H Q → t σ H Q) : PT X e u := ⟨fun pins s σ H Q I q => h.run pins s σ H Q I (k σ H Q q)⟩
theorem pw_w {X : Cx} {e : Expr} {t u : TT} (h : PW X e t) (k : ∀ σ H Q, u σ H Q → t σ H Q) : PW X e u := ⟨fun wh pins s σ H Q I q => h.run wh pins s σ H Q I (k σ H Q q)⟩
theorem pa_w {X : Cx} {es : List Expr} {t u : TA} (h : PA X es t) (k : ∀ σ H Q, u σ H Q → t σ H Q) : PA X es u := ⟨fun pos pins s σ H Q I q => h.run pos pins s σ H Q I (k σ H Q q)⟩
theorem ps_w {X : Cx} {st : Stmt} {t u : TS} (h : PS X st t) (k : ∀ D σ H, u D σ H → t D σ H) : PS X st u := ⟨fun pins s σ H D I q => h.run pins s σ H D I (k D σ H q)⟩
theorem pss_w {X : Cx} {st : List Stmt} {t u : TS} (h : PSs X st t) (k : ∀ D σ H, u D σ H → t D σ H) : PSs X st u := ⟨fun pins s σ H D I q => h.run pins s σ H D I (k D σ H q)⟩
end Mv
namespace Mv
open PySem L2
section
variable {K : PySem.W.Frag} {W : WX} {σ : L2.St} {H : Hp} {Q : VK}
/-! ### the mirrors of expressions -/
def frzE (f : EB) : EB := fun ss => match f ss with
  | .ok (_, d) => .ok (0, d)
  | .exc e => .exc e
  | .no => .no
def own0 (f : EB) : EB := fun ss => match f ss with
  | .ok (0, d) => .ok (0, d)
  | .ok (_, _) => .no
  | .exc e => .exc e
  | .no => .no
def eVar (i : Nat) : EB := fun ss => match ss[i]? with
  | some (.v n d) => .ok (n, d)
  | some (.o _ n d) => .ok (n, d)
  | _ => .no
def eC (d : D) : EB := fun _ => .ok (0, d)
def eOp (g : D → D → Option D) (f1 f2 : EB) : EB := fun ss => match f1 ss with
  | .ok (_, a) => (match f2 ss with
    | .ok (_, b) => (match g a b with
      | some d => .ok (0, d)
      | none => .no)
    | .exc e => .exc e
    | .no => .no)
  | .exc e => .exc e
  | .no => .no
def eUn (g : D → Option D) (f1 : EB) : EB := fun ss => match f1 ss with
  | .ok (_, a) => (match g a with
      | some d => .ok (0, d)
      | none => .no)
  | .exc e => .exc e
  | .no => .no
def eTest (f : EB) : ET := fun ss => match f ss with
  | .ok (_, .bl b) => .ok b
  | .ok (_, _) => .no
  | .exc e => .exc e
  | .no => .no
def aNil : EA := fun _ => .ok []
def aCons (f : EB) (g : EA) : EA := fun ss => match f ss with
  | .ok (_, d) => (match g ss with
    | .ok ds => .ok (d :: ds)
    | .exc e => .exc e
    | .no => .no)
  | .exc e => .exc e
  | .no => .no
/-! ### what a wish says, case by case -/
theorem tB_ok {B : Hp} {ss : En} {fps : List (List Addr)} {f : EB} {n : Nat} {d : D} (pi : Pi K B σ H ss fps) (h : f ss = .ok (n, d)) (k : ∀ B' v H', Stp B H B' H' → Bw K B' H' n d v → Q v H') : tB K W f σ H Q :=
  ⟨B, ss, fps, pi, by rw [h]; exact k⟩
theorem tB_exc {B : Hp} {ss : En} {fps : List (List Addr)} {f : EB} {e : Exo} (pi : Pi K B σ H ss fps) (h : f ss = .exc e) (k : ∀ B' cls dd H', Stp B H B' H' → ExR K B' H' e cls dd → W cls dd σ H') : tB K W f σ H Q :=
  ⟨B, ss, fps, pi, by rw [h]; exact k⟩
/-- how a reading by tB is shown: from its state, by what f answers there -/
theorem tB_cut {f g : EB} {Q' : VK} (h : tB K W g σ H Q')
    (k : ∀ B ss fps, Pi K B σ H ss fps → (match g ss with
      | .ok (n, d) => ∀ B' v H', Stp B H B' H' → Bw K B' H' n d v → Q' v H'
      | .exc e => ∀ B' cls dd H', Stp B H B' H' → ExR K B' H' e cls dd → W cls dd σ H'
      | .no => False) → (match f ss with
      | .ok (n, d) => ∀ B' v H', Stp B H B' H' → Bw K B' H' n d v → Q v H'
      | .exc e => ∀ B' cls dd H', Stp B H B' H' → ExR K B' H' e cls dd → W cls dd σ H'
      | .no => False)) : tB K W f σ H Q := by
  obtain ⟨B, ss, fps, pi, q⟩ := h
  exact ⟨B, ss, fps, pi, k B ss fps pi q⟩
end
section
variable {X : Cx} {W : WX} {e a b c : Expr} {pos : Pos} {f f1 f2 f3 : EB}
theorem b_of_m (h : PE X e (tM X.K W f)) : PE X e (tB X.K W (frzE f)) := by
  refine pe_w h fun σ H Q hq => ?_
  obtain ⟨B, ss, fps, pi, k⟩ := hq
  refine ⟨B, ss, fps, pi, ?_⟩
  unfold frzE at k
  cases hf : f ss with
  | ok r =>
    obtain ⟨n, d⟩ := r
    rw [hf] at k
    intro B' v H' fp st nw
    obtain ⟨B2, q1, q2, q3, q4⟩ := nw.freeze st.bh
    exact k B2 v H' ⟨st.bb.trans q1, st.hh, q2, fun a z1 z2 => q4 a (st.dj a z1 z2) z2⟩ (bw0 q3)
  | exc e => rw [hf] at k; exact k
  | no => rw [hf] at k; exact k
theorem m_of_b (h : PE X e (tB X.K W f)) : PE X e (tM X.K W (own0 f)) := by
  refine pe_w h fun σ H Q hq => ?_
  obtain ⟨B, ss, fps, pi, k⟩ := hq
  refine ⟨B, ss, fps, pi, ?_⟩
  unfold own0 at k
  cases hf : f ss with
  | ok r =>
    obtain ⟨n, d⟩ := r
    rw [hf] at k
    cases n with
    | zero =>
      intro B' v H' st bw
      exact k B' v H' [] st ⟨⟨rfl, bw.rep⟩, List.nodup_nil, fun a z => nomatch z⟩
    | succ n => exact k.elim
  | exc e => rw [hf] at k; exact k
  | no => rw [hf] at k; exact k
theorem b_var (i : Nat) {x : Str} (hN : X.N[i]? = some x := by rfl) (hv : Vis X.env.scope x := by first | exact Or.inl rfl | exact Or.inr (Or.inl rfl) | exact Or.inr (Or.inr rfl)) (hd : (x == ("__debug__" : Str)) = false := by decide)
    (hcd : (x == ("__classdict__" : Str)) = false := by decide) : PE X (.Name x pos) (tB X.K W (eVar i)) := by
  refine pe_w (pe_var hN hv hd hcd) fun σ H Q hq => ?_
  obtain ⟨B, ss, fps, pi, k⟩ := hq
  unfold eVar at k
  cases hs : ss[i]? with
  | none => rw [hs] at k; exact k.elim
  | some s =>
    rw [hs] at k
    cases s with
    | un => exact k.elim
    | v n d =>
      obtain ⟨v, h1, h2⟩ := pi.get hs
      exact ⟨v, h1, k B v H (.refl pi.bh) h2⟩
    | o w n d =>
      obtain ⟨o, c, h1, h2, h3, h4⟩ := pi.al.get hs
      subst h3
      exact ⟨w, h1, k B w H (.refl pi.bh) h4.bw⟩
    | s a C fs => exact k.elim
theorem b_c {v : V} {d : D} (h : PE X e (tC v)) (r : ∀ B, Rep X.K B d v) : PE X e (tB X.K W (eC d)) := by
  refine pe_w h fun σ H Q hq => ?_
  obtain ⟨B, ss, fps, pi, k⟩ := hq
  exact k B v H (.refl pi.bh) (bw0 (r B))
theorem b_int {i : Int} {j : Nat} : PE X (.Constant (.int i) j pos) (tB X.K W (eC (.int i))) := b_c pe_int fun _ => rep_int
theorem b_bl {i : Bool} {j : Nat} : PE X (.Constant (.bool i) j pos) (tB X.K W (eC (.bl i))) := b_c pe_bl fun _ => rep_bl
theorem b_non {j : Nat} : PE X (.Constant .none j pos) (tB X.K W (eC .non)) := b_c pe_non fun _ => rep_non
/-! ### operations with flat answers -/
def OpOk (K : PySem.W.Frag) (r : R2) (g : D → D → Option D) : Prop := ∀ (H : Hp) (da db d : D) (x y : V) (Q : VK), Rep K H da x → Rep K H db y → g da db = some d → (∀ v, (∀ B, Rep K B d v) → Q v H) → r x y H Q
theorem op_of {r : R2} {g : D → D → Option D} (hg : OpOk X.K r g) (σ : L2.St) (H : Hp) (Q : VK) (hq : tB X.K W (eOp g f1 f2) σ H Q) : tOp r (tB X.K W f1) (tB X.K W f2) σ H Q := by
  refine tB_cut hq fun B ss fps pi k => ?_
  unfold eOp at k
  cases h1 : f1 ss with
  | ok r1 =>
    obtain ⟨n1, d1⟩ := r1
    rw [h1] at k
    intro B1 x H1 s1 bx
    cases h2 : f2 ss with
    | ok r2 =>
      obtain ⟨n2, d2⟩ := r2
      rw [h2] at k
      refine tB_ok (pi.step s1) h2 fun B2 y H2 s2 bY => ?_
      cases hh : g d1 d2 with
      | some d =>
        simp only [hh] at k
        exact hg H2 d1 d2 d x y Q ((bx.le s2.bb s2.hh).here s2.bh) (bY.here s2.bh) hh fun v rv => k B2 v H2 (s1.trans s2) (bw0 (rv B2))
      | none => simp only [hh] at k
    | exc e =>
      rw [h2] at k
      exact tB_exc (pi.step s1) h2 fun B2 cls dd H2 s2 ex => k B2 cls dd H2 (s1.trans s2) ex
    | no => rw [h2] at k; exact k.elim
  | exc e => rw [h1] at k; exact k
  | no => rw [h1] at k; exact k
theorem b_op {op : Operator} {r : R2} {g : D → D → Option D} (ho : OpR X (binaryOp op) r) (hg : OpOk X.K r g) (ha : PE X a (tB X.K W f1)) (hb : PE X b (tB X.K W f2)) : PE X (.BinOp a op b pos) (tB X.K W (eOp g f1 f2)) :=
  pe_w (pe_op ho ha hb) fun σ H Q hq => op_of hg σ H Q hq
theorem test_of {f : EB} {σ : L2.St} {H : Hp} {Q : Bool → Hp → Prop} (hq : tT X.K W (eTest f) σ H Q) : tB X.K W f σ H (fun x H' => ∃ k, x = .bl k ∧ Q k H') := by
  obtain ⟨B, ss, fps, pi, k⟩ := hq
  refine ⟨B, ss, fps, pi, ?_⟩
  unfold eTest at k
  cases h1 : f ss with
  | ok r =>
    obtain ⟨n, d⟩ := r
    rw [h1] at k
    cases d <;> first | exact k.elim | skip
    rename_i b
    intro B' v H' st bw
    have e := bw.flat (B' := B') rfl
    rw [Rep] at e
    exact ⟨b, e, k B' H' st⟩
  | exc e => rw [h1] at k; exact k
  | no => rw [h1] at k; exact k
theorem t_cmp {op : CmpOp} {r : R2} {g : D → D → Option D} (ho : OpR X (compareOp op) r) (hg : OpOk X.K r g) (ha : PE X a (tB X.K W f1)) (hb : PE X b (tB X.K W f2)) (hm : behindInMarks op b = false) : PT X (.Compare a [op] [b] pos) (tT X.K W (eTest (eOp g f1 f2))) :=
  pt_w (pt_cmpR ho ha hb hm) fun σ H Q hq => op_of hg σ H _ (test_of hq)
theorem t_val (h : PE X e (tB X.K W f)) (he : ∀ whole, isTrue e X.env whole = (do let v ← whole; standAt e.pos; holding [v] (truthy v)) := by intro _; rfl) : PT X e (tT X.K W (eTest f)) :=
  pt_w (pt_val h he) fun σ H Q hq => test_of hq
/-! ### truth: and, or, not, if -/
def tyAnd (f g : ET) : ET := fun ss => match f ss with
  | .ok true => g ss
  | o => o
def tyOr (f g : ET) : ET := fun ss => match f ss with
  | .ok false => g ss
  | o => o
def tyNot (f : ET) : ET := fun ss => match f ss with
  | .ok b => .ok (!b)
  | o => o
variable {t1 t2 : ET}
theorem tT_step {K : PySem.W.Frag} {W : WX} {σ : L2.St} {H B B1 H1 : Hp} {ss : En} {fps : List (List Addr)} {f : ET} {Q : Bool → Hp → Prop} (pi : Pi K B σ H ss fps) (s1 : Stp B H B1 H1)
    (k : match f ss with
      | .ok b => ∀ B' H', Stp B H B' H' → Q b H'
      | .exc e => ∀ B' cls dd H', Stp B H B' H' → ExR K B' H' e cls dd → W cls dd σ H'
      | .no => False) : tT K W f σ H1 Q := by
  refine ⟨B1, ss, fps, pi.step s1, ?_⟩
  cases h : f ss with
  | ok b => rw [h] at k; exact fun B' H' s => k B' H' (s1.trans s)
  | exc e => rw [h] at k; exact fun B' cls dd H' s ex => k B' cls dd H' (s1.trans s) ex
  | no => rw [h] at k; exact k.elim
theorem and_of {σ : L2.St} {H : Hp} {Q : Bool → Hp → Prop} (hq : tT X.K W (tyAnd t1 t2) σ H Q) : tAnd (tT X.K W t1) (tT X.K W t2) σ H Q := by
  obtain ⟨B, ss, fps, pi, k⟩ := hq
  refine ⟨B, ss, fps, pi, ?_⟩
  unfold tyAnd at k
  cases h : t1 ss with
  | ok b =>
    rw [h] at k
    cases b with
    | true => exact fun B1 H1 s1 => tT_step pi s1 k
    | false => exact fun B1 H1 s1 => k B1 H1 s1
  | exc e => rw [h] at k; exact k
  | no => rw [h] at k; exact k
theorem or_of {σ : L2.St} {H : Hp} {Q : Bool → Hp → Prop} (hq : tT X.K W (tyOr t1 t2) σ H Q) : tOr (tT X.K W t1) (tT X.K W t2) σ H Q := by
  obtain ⟨B, ss, fps, pi, k⟩ := hq
  refine ⟨B, ss, fps, pi, ?_⟩
  unfold tyOr at k
  cases h : t1 ss with
  | ok b =>
    rw [h] at k
    cases b with
    | false => exact fun B1 H1 s1 => tT_step pi s1 k
    | true => exact fun B1 H1 s1 => k B1 H1 s1
  | exc e => rw [h] at k; exact k
  | no => rw [h] at k; exact k
theorem not_of {σ : L2.St} {H : Hp} {Q : Bool → Hp → Prop} (hq : tT X.K W (tyNot t1) σ H Q) : tNot (tT X.K W t1) σ H Q := by
  obtain ⟨B, ss, fps, pi, k⟩ := hq
  refine ⟨B, ss, fps, pi, ?_⟩
  unfold tyNot at k
  cases h : t1 ss with
  | ok b => rw [h] at k; exact k
  | exc e => rw [h] at k; exact k
  | no => rw [h] at k; exact k
variable {rest : List Expr}
theorem w_and1 (ha : PT X a (tT X.K W t1)) : PW X (.BoolOp .And [a] pos) (tT X.K W t1) := pw_and1 ha
theorem w_or1 (ha : PT X a (tT X.K W t1)) : PW X (.BoolOp .Or [a] pos) (tT X.K W t1) := pw_or1 ha
theorem w_and (ha : PT X a (tT X.K W t1)) (hb : PW X (.BoolOp .And (b :: rest) pos) (tT X.K W t2)) : PW X (.BoolOp .And (a :: b :: rest) pos) (tT X.K W (tyAnd t1 t2)) := pw_w (pw_and ha hb) fun σ H Q hq => and_of hq
theorem w_or (ha : PT X a (tT X.K W t1)) (hb : PW X (.BoolOp .Or (b :: rest) pos) (tT X.K W t2)) : PW X (.BoolOp .Or (a :: b :: rest) pos) (tT X.K W (tyOr t1 t2)) := pw_w (pw_or ha hb) fun σ H Q hq => or_of hq
theorem t_not (ha : PT X a (tT X.K W t1)) : PT X (.UnaryOp .Not a pos) (tT X.K W (tyNot t1)) := pt_w (pt_not ha) fun σ H Q hq => not_of hq
/-- values: all but the last True or False -/
def eAnd (f g : EB) : EB := fun ss => match f ss with
  | .ok (_, .bl true) => g ss
  | .ok (_, .bl false) => .ok (0, .bl false)
  | .ok (_, _) => .no
  | .exc e => .exc e
  | .no => .no
def eNot (f : EB) : EB := fun ss => match f ss with
  | .ok (_, .bl b) => .ok (0, .bl (!b))
  | .ok (_, _) => .no
  | .exc e => .exc e
  | .no => .no
theorem tB_step {K : PySem.W.Frag} {W : WX} {σ : L2.St} {H B B1 H1 : Hp} {ss : En} {fps : List (List Addr)} {f : EB} {Q : VK} (pi : Pi K B σ H ss fps) (s1 : Stp B H B1 H1)
    (k : match f ss with
      | .ok (n, d) => ∀ B' v H', Stp B H B' H' → Bw K B' H' n d v → Q v H'
      | .exc e => ∀ B' cls dd H', Stp B H B' H' → ExR K B' H' e cls dd → W cls dd σ H'
      | .no => False) : tB K W f σ H1 Q := by
  refine ⟨B1, ss, fps, pi.step s1, ?_⟩
  cases h : f ss with
  | ok r => obtain ⟨n, d⟩ := r; rw [h] at k; exact fun B' v H' s bw => k B' v H' (s1.trans s) bw
  | exc e => rw [h] at k; exact fun B' cls dd H' s ex => k B' cls dd H' (s1.trans s) ex
  | no => rw [h] at k; exact k.elim
theorem b_one {op : BoolOp} (h : PE X a (tB X.K W f)) : PE X (.BoolOp op [a] pos) (tB X.K W f) := pe_one h
theorem b_and (ha : PE X a (tB X.K W f1)) (hb : PE X (.BoolOp .And (b :: rest) pos) (tB X.K W f2)) : PE X (.BoolOp .And (a :: b :: rest) pos) (tB X.K W (eAnd f1 f2)) := by
  refine pe_w (pe_and ha hb) fun σ H Q hq => tB_cut hq fun B ss fps pi k => ?_
  unfold eAnd at k
  cases h : f1 ss with
  | ok r =>
    obtain ⟨n, d⟩ := r
    rw [h] at k
    cases d <;> first | exact k.elim | skip
    rename_i b
    intro B1 v H1 s1 bw
    have e := bw.flat (B' := B1) rfl
    rw [Rep] at e
    refine ⟨b, e, ?_⟩
    cases b with
    | true => exact tB_step pi s1 k
    | false => exact k B1 _ H1 s1 (bw0 rep_bl)
  | exc e => rw [h] at k; exact k
  | no => rw [h] at k; exact k
theorem b_not (ha : PE X a (tB X.K W f)) : PE X (.UnaryOp .Not a pos) (tB X.K W (eNot f)) := by
  refine pe_w (pe_not ha) fun σ H Q hq => tB_cut hq fun B ss fps pi k => ?_
  unfold eNot at k
  cases h : f ss with
  | ok r =>
    obtain ⟨n, d⟩ := r
    rw [h] at k
    cases d <;> first | exact k.elim | skip
    rename_i b
    intro B1 v H1 s1 bw
    have e := bw.flat (B' := B1) rfl
    rw [Rep] at e
    exact ⟨b, e, k B1 _ H1 s1 (bw0 rep_bl)⟩
  | exc e => rw [h] at k; exact k
  | no => rw [h] at k; exact k
/-! ### one-place operations, arguments -/
def UnOk (K : PySem.W.Frag) (r : V → Hp → VK → Prop) (g : D → Option D) : Prop := ∀ (H : Hp) (da d : D) (x : V) (Q : VK), Rep K H da x → g da = some d → (∀ v, (∀ B, Rep K B d v) → Q v H) → r x H Q
theorem b_un {op : UnaryOp} {r : V → Hp → VK → Prop} {g : D → Option D} (ho : UnR X (unaryOp op) r) (hg : UnOk X.K r g) (ha : PE X a (tB X.K W f)) : PE X (.UnaryOp op a pos) (tB X.K W (eUn g f)) := by
  refine pe_w (pe_un ho ha) fun σ H Q hq => tB_cut hq fun B ss fps pi k => ?_
  unfold eUn at k
  cases h : f ss with
  | ok r =>
    obtain ⟨n, d⟩ := r
    rw [h] at k
    intro B1 v H1 s1 bw
    cases hh : g d with
    | some d2 =>
      simp only [hh] at k
      exact hg H1 d d2 v Q (bw.here s1.bh) hh fun v rv => k B1 v H1 s1 (bw0 (rv B1))
    | none => simp only [hh] at k
  | exc e => rw [h] at k; exact k
  | no => rw [h] at k; exact k
variable {es : List Expr} {g1 g2 : EA}
theorem ah_nil : PA X [] (tAh X.K W aNil) := by
  refine pa_w pa_nil fun σ H Q hq => ?_
  obtain ⟨B, ss, fps, pi, k⟩ := hq
  exact k B [] H (.refl pi.bh) reps_nil
theorem ah_cons (ha : PE X e (tB X.K W f)) (hr : PA X es (tAh X.K W g1)) (hs : starEach (e :: es) X.env = (false, eval e X.env) :: starEach es X.env := by rfl) : PA X (e :: es) (tAh X.K W (aCons f g1)) := by
  refine pa_w (pa_cons ha hr hs) fun σ H Q hq => ?_
  obtain ⟨B, ss, fps, pi, k⟩ := hq
  refine ⟨B, ss, fps, pi, ?_⟩
  unfold aCons at k
  cases h : f ss with
  | ok r =>
    obtain ⟨n, d⟩ := r
    rw [h] at k
    intro B1 v H1 s1 bw
    refine ⟨B1, ss, fps, pi.step s1, ?_⟩
    cases h2 : g1 ss with
    | ok ds =>
      rw [h2] at k
      intro B2 vs H2 s2 rs
      exact k B2 (v :: vs) H2 (s1.trans s2) (reps_cons (Rep.mono s2.hh _ _ (bw.here s1.bh)) rs)
    | exc e => rw [h2] at k; exact fun B2 cls dd H2 s2 ex => k B2 cls dd H2 (s1.trans s2) ex
    | no => rw [h2] at k; exact k.elim
  | exc e => rw [h] at k; exact k
  | no => rw [h] at k; exact k
/-- arguments that stand in the base: each item of depth 0 -/
def a0Cons (f : EB) (g : EA) : EA := fun ss => match f ss with
  | .ok (0, d) => (match g ss with
    | .ok ds => .ok (d :: ds)
    | .exc e => .exc e
    | .no => .no)
  | .ok (_, _) => .no
  | .exc e => .exc e
  | .no => .no
theorem a_nil : PA X [] (tA X.K W aNil) := by
  refine pa_w pa_nil fun σ H Q hq => ?_
  obtain ⟨B, ss, fps, pi, k⟩ := hq
  exact k B [] H (.refl pi.bh) reps_nil
theorem a_cons (ha : PE X e (tB X.K W f)) (hr : PA X es (tA X.K W g1)) (hs : starEach (e :: es) X.env = (false, eval e X.env) :: starEach es X.env := by rfl) : PA X (e :: es) (tA X.K W (a0Cons f g1)) := by
  refine pa_w (pa_cons ha hr hs) fun σ H Q hq => ?_
  obtain ⟨B, ss, fps, pi, k⟩ := hq
  refine ⟨B, ss, fps, pi, ?_⟩
  unfold a0Cons at k
  cases h : f ss with
  | ok r =>
    obtain ⟨n, d⟩ := r
    rw [h] at k
    cases n with
    | zero =>
      intro B1 v H1 s1 bw
      refine ⟨B1, ss, fps, pi.step s1, ?_⟩
      cases h2 : g1 ss with
      | ok ds =>
        simp only [h2] at k
        intro B2 vs H2 s2 rs
        exact k B2 (v :: vs) H2 (s1.trans s2) (reps_cons (Rep.mono s2.bb _ _ bw.rep) rs)
      | exc e => simp only [h2] at k; exact fun B2 cls dd H2 s2 ex => k B2 cls dd H2 (s1.trans s2) ex
      | no => simp only [h2] at k
    | succ n => exact k.elim
  | exc e => rw [h] at k; exact k
  | no => rw [h] at k; exact k
/-! ### built-in functions with flat answers -/
def eCall (g : List D → Option D) (ga : EA) : EB := fun ss => match ga ss with
  | .ok ds => (match g ds with
    | some d => .ok (0, d)
    | none => .no)
  | .exc e => .exc e
  | .no => .no
def ClOk (K : PySem.W.Frag) (r : List V → Hp → VK → Prop) (g : List D → Option D) : Prop := ∀ (H : Hp) (ds : List D) (d : D) (vs : List V) (Q : VK), Reps K H ds vs → g ds = some d → (∀ v, (∀ B, Rep K B d v) → Q v H) → r vs H Q
theorem call_of {r : List V → Hp → VK → Prop} {g : List D → Option D} (hg : ClOk X.K r g) (σ : L2.St) (H : Hp) (Q : VK) (hq : tB X.K W (eCall g g1) σ H Q) : tCB r (tAh X.K W g1) σ H Q := by
  obtain ⟨B, ss, fps, pi, k⟩ := hq
  refine ⟨B, ss, fps, pi, ?_⟩
  unfold eCall at k
  cases h : g1 ss with
  | ok ds =>
    rw [h] at k
    intro B1 vs H1 s1 rs
    cases hh : g ds with
    | some d =>
      simp only [hh] at k
      exact hg H1 ds d vs Q rs hh fun v rv => k B1 v H1 s1 (bw0 (rv B1))
    | none => simp only [hh] at k
  | exc e => rw [h] at k; exact k
  | no => rw [h] at k; exact k
variable {x : Str} {p : Pos} {id T : String}
theorem b_callB {r : List V → Hp → VK → Prop} {g : List D → Option D} (hc : CallR X (.builtin id) r) (hg : ClOk X.K r g) (hgl : Gl X x) (hm : X.mg x = none) (hv : bootBuiltins x = some (.builtin id)) (ha : PA X (e :: es) (tAh X.K W g1)) (hn : x ≠ "__name__" := by decide) (hdb : (x == ("__debug__" : Str)) = false := by decide)
    (he : starEach (e :: es) X.env = (false, eval e X.env) :: starEach es X.env := by rfl) (hpl : (backTo pos (starEach es X.env)).any (·.1) = false := by rfl) : PE X (.Call (.Name x p) (e :: es) [] pos) (tB X.K W (eCall g g1)) :=
  pe_w (pe_callB hc hgl hm hv ha hn hdb he hpl) fun σ H Q hq => call_of hg σ H Q hq
theorem b_callTy {r : List V → Hp → VK → Prop} {g : List D → Option D} (hc : CallR X (.type T) r) (hg : ClOk X.K r g) (hgl : Gl X x) (hm : X.mg x = none) (hv : bootBuiltins x = some (.type T)) (ha : PA X (e :: es) (tAh X.K W g1)) (hn : x ≠ "__name__" := by decide) (hdb : (x == ("__debug__" : Str)) = false := by decide)
    (he : starEach (e :: es) X.env = (false, eval e X.env) :: starEach es X.env := by rfl) (hpl : (backTo pos (starEach es X.env)).any (·.1) = false := by rfl) : PE X (.Call (.Name x p) (e :: es) [] pos) (tB X.K W (eCall g g1)) :=
  pe_w (pe_callTy hc hgl hm hv ha hn hdb he hpl) fun σ H Q hq => call_of hg σ H Q hq
end
end Mv
namespace Mv
open PySem L2
/-! ### operations on plain data -/
def gInt (f : Int → Int → D) : D → D → Option D
  | .int i, .int j => some (f i j)
  | _, _ => none
def gIntC (C : Int → Int → Bool) (f : Int → Int → D) : D → D → Option D
  | .int i, .int j => if C i j then some (f i j) else none
  | _, _ => none
section
variable {K : PySem.W.Frag}
theorem ok_int {u : Int → Int → V} {f : Int → Int → D} (r : ∀ i j B, Rep K B (f i j) (u i j)) : OpOk K (rI0 u) (gInt f) := by
  intro H da db d x y Q ra rb e k
  cases da <;> first | cases e | skip
  cases db <;> first | cases e | skip
  rw [Rep] at ra rb
  exact ⟨_, _, ra, rb, k _ (r _ _)⟩
theorem ok_intC {P : Int → Int → Prop} {C : Int → Int → Bool} {u : Int → Int → V} {f : Int → Int → D} (c : ∀ i j, C i j = true → P i j) (r : ∀ i j B, Rep K B (f i j) (u i j)) : OpOk K (rI P u) (gIntC C f) := by
  intro H da db d x y Q ra rb e k
  cases da <;> first | cases e | skip
  cases db <;> first | cases e | skip
  rename_i i j
  rw [Rep] at ra rb
  unfold gIntC at e
  by_cases hc : C i j = true
  · simp only [hc, if_true] at e
    cases e
    exact ⟨_, _, ra, rb, c _ _ hc, k _ (r _ _)⟩
  · simp only [hc] at e
    cases e
end
def gAdd : D → D → Option D := gInt fun i j => .int (i + j)
def gSub : D → D → Option D := gInt fun i j => .int (i - j)
def gMul : D → D → Option D := gIntC (fun i j => decide (i.natAbs.log2 + j.natAbs.log2 < 1000000)) fun i j => .int (i * j)
def gMod : D → D → Option D := gIntC (fun _ j => decide (0 < j)) fun i j => .int (i % j)
def gDiv : D → D → Option D := gIntC (fun _ j => decide (0 < j) && decide (j.natAbs.log2 < 9000)) fun i j => .int (i / j)
def gPow : D → D → Option D := gIntC (fun i j => decide (0 ≤ j) && (decide (j ≤ 1000000) && decide (i.natAbs < 2 ^ 64))) fun i j => .int (i ^ j.toNat)
def gLt : D → D → Option D := gInt fun i j => .bl (decide (i < j))
def gGt : D → D → Option D := gInt fun i j => .bl (decide (j < i))
def gGe : D → D → Option D := gInt fun i j => .bl (decide (j ≤ i))
section
variable {X : Cx} {W : WX} {a b c e : Expr} {pos : Pos} {f f1 f2 f3 : EB}
theorem b_add (ha : PE X a (tB X.K W f1)) (hb : PE X b (tB X.K W f2)) : PE X (.BinOp a .Add b pos) (tB X.K W (eOp gAdd f1 f2)) := b_op op_add (ok_int fun _ _ _ => rep_int) ha hb
theorem b_sub (ha : PE X a (tB X.K W f1)) (hb : PE X b (tB X.K W f2)) : PE X (.BinOp a .Sub b pos) (tB X.K W (eOp gSub f1 f2)) := b_op op_sub (ok_int fun _ _ _ => rep_int) ha hb
theorem b_mul (ha : PE X a (tB X.K W f1)) (hb : PE X b (tB X.K W f2)) : PE X (.BinOp a .Mult b pos) (tB X.K W (eOp gMul f1 f2)) := b_op op_mulW (ok_intC (fun i j h => by have q : i.natAbs.log2 + j.natAbs.log2 < 1000000 := of_decide_eq_true h; exact q) fun _ _ _ => rep_int) ha hb
theorem b_mod (ha : PE X a (tB X.K W f1)) (hb : PE X b (tB X.K W f2)) : PE X (.BinOp a .Mod b pos) (tB X.K W (eOp gMod f1 f2)) := b_op op_mod (ok_intC (fun _ _ h => of_decide_eq_true h) fun _ _ _ => rep_int) ha hb
theorem b_div (ha : PE X a (tB X.K W f1)) (hb : PE X b (tB X.K W f2)) : PE X (.BinOp a .FloorDiv b pos) (tB X.K W (eOp gDiv f1 f2)) :=
  b_op op_fdivW (ok_intC (fun _ _ h => by rw [Bool.and_eq_true] at h; exact ⟨of_decide_eq_true h.1, of_decide_eq_true h.2⟩) fun _ _ _ => rep_int) ha hb
theorem b_pow (ha : PE X a (tB X.K W f1)) (hb : PE X b (tB X.K W f2)) : PE X (.BinOp a .Pow b pos) (tB X.K W (eOp gPow f1 f2)) :=
  b_op op_pow (ok_intC (fun _ _ h => by rw [Bool.and_eq_true, Bool.and_eq_true] at h; exact ⟨of_decide_eq_true h.1, of_decide_eq_true h.2.1, of_decide_eq_true h.2.2⟩) fun _ _ _ => rep_int) ha hb
theorem ok_lt : OpOk X.K (rI0 fun i j => .bl (decide (i < j))) gLt := ok_int fun _ _ _ => rep_bl
theorem ok_gt : OpOk X.K (rI0 fun i j => .bl (decide (j < i))) gGt := ok_int fun _ _ _ => rep_bl
theorem ok_ge : OpOk X.K (rI0 fun i j => .bl (decide (j ≤ i))) gGe := ok_int fun _ _ _ => rep_bl
/-! ### equality of plain data without truth values -/
end
mutual
def D.py : D → PyData
  | .non => .none
  | .bl b => .bool b
  | .int i => .int i
  | .str x => .str x
  | .lst ds => .list (pys ds)
  | .tup ds => .tuple (pys ds)
  | .rdl ds => .list (pys ds)
  | .rdt ds => .tuple (pys ds)
  | .ins _ _ => .none
  | .exo _ => .none
  | .exd _ _ _ => .none
  | .ob _ _ => .none
  | .dk _ => .none
  | .dt _ => .none
def pys : List D → List PyData
  | [] => []
  | d :: ds => d.py :: pys ds
end
mutual
/-- data of depth at most n -/
def pl : D → Nat → Bool
  | .non, _ => true
  | .int _, _ => true
  | .str x, _ => PyData.strOk x
  | .lst ds, n => decide (0 < n) && pls ds (n - 1)
  | .tup ds, n => decide (0 < n) && pls ds (n - 1)
  | .bl _, _ => true
  | .rdl _, _ => false
  | .rdt _, _ => false
  | .ins _ _, _ => false
  | .exo _, _ => false
  | .exd _ _ _, _ => false
  | .ob _ _, _ => false
  | .dk _, _ => false
  | .dt _, _ => false
def pls : List D → Nat → Bool
  | [], _ => true
  | d :: ds, n => pl d n && pls ds n
end
mutual
/-- no truth value stands where the other has a number -/
def cp : D → D → Bool
  | .bl _, .bl _ => true
  | .bl _, .int _ => false
  | .int _, .bl _ => false
  | .lst ds, .lst es => cps ds es
  | .tup ds, .tup es => cps ds es
  | _, _ => true
def cps : List D → List D → Bool
  | d :: ds, e :: es => cp d e && cps ds es
  | _, _ => true
end
section
variable {K : PySem.W.Frag} {H : Hp}
mutual
theorem dp_of : ∀ (d : D) (n : Nat) (v : V), pl d n = true → Rep K H d v → Dp K H v d.py
  | .non, n, v, h, r => by rw [Rep] at r; subst r; rw [D.py]; exact .non
  | .int i, n, v, h, r => by rw [Rep] at r; subst r; rw [D.py]; exact .int i
  | .str x, n, v, h, r => by rw [Rep] at r; subst r; rw [D.py]; exact .str x
  | .lst ds, n, v, h, r => by
    rw [Rep] at r; obtain ⟨a, xs, rfl, ha, rs⟩ := r
    rw [pl, Bool.and_eq_true] at h
    rw [D.py]; exact .lst (SqL.of ha) (dps_of ds _ xs h.2 rs)
  | .tup ds, n, v, h, r => by
    rw [Rep] at r; obtain ⟨a, xs, rfl, ha, rs⟩ := r
    rw [pl, Bool.and_eq_true] at h
    rw [D.py]; exact .tup (ha.sqT) (dps_of ds _ xs h.2 rs)
  | .bl b, n, v, h, r => by rw [Rep] at r; subst r; rw [D.py]; exact .bl b
  | .rdl ds, n, v, h, r => by rw [pl] at h; cases h
  | .rdt ds, n, v, h, r => by rw [pl] at h; cases h
  | .ins C fs, n, v, h, r => by rw [pl] at h; cases h
  | .exo a, n, v, h, r => by rw [pl] at h; cases h
  | .exd a b c, n, v, h, r => by rw [pl] at h; cases h
  | .ob a b, n, v, h, r => by rw [pl] at h; cases h
  | .dk a, n, v, h, r => by rw [pl] at h; cases h
  | .dt a, n, v, h, r => by rw [pl] at h; cases h
theorem dps_of : ∀ (ds : List D) (n : Nat) (vs : List V), pls ds n = true → Reps K H ds vs → DpAll K H vs (pys ds)
  | [], n, vs, h, r => by rw [Reps] at r; subst r; rw [pys]; exact .nil
  | d :: ds, n, vs, h, r => by
    rw [Reps] at r; obtain ⟨v, us, rfl, r1, r2⟩ := r
    rw [pls, Bool.and_eq_true] at h
    rw [pys]; exact .cons (dp_of d n v h.1 r1) (dps_of ds n us h.2 r2)
end
end
theorem pl_rdl {b : List D} {n : Nat} : pl (.rdl b) n = false := by rw [pl]
theorem pl_rdt {b : List D} {n : Nat} : pl (.rdt b) n = false := by rw [pl]
theorem pl_ins {C : Addr} {b : List (Str × D)} {n : Nat} : pl (.ins C b) n = false := by rw [pl]
theorem pl_exo {b : Addr} {n : Nat} : pl (.exo b) n = false := by rw [pl]
theorem pl_exd {a b : Addr} {c : List (Str × D)} {n : Nat} : pl (.exd a b c) n = false := by rw [pl]
theorem pl_ob {C : Addr} {b : List (Str × D)} {n : Nat} : pl (.ob C b) n = false := by rw [pl]
theorem pl_dk {b : List (Key × D)} {n : Nat} : pl (.dk b) n = false := by rw [pl]
theorem pl_dt {b : List (NestedKey × D)} {n : Nat} : pl (.dt b) n = false := by rw [pl]
mutual
theorem lay_of : ∀ (d : D) (n : Nat), pl d n = true → d.py.canLay0 = true
  | .non, n, h => by rw [D.py, PyData.canLay0]
  | .int i, n, h => by rw [D.py, PyData.canLay0]
  | .str x, n, h => by rw [D.py, PyData.canLay0]; rw [pl] at h; exact h
  | .lst ds, n, h => by
    rw [pl, Bool.and_eq_true] at h
    rw [D.py, PyData.canLay0]; exact lays_of ds _ h.2
  | .tup ds, n, h => by
    rw [pl, Bool.and_eq_true] at h
    rw [D.py, PyData.canLay0]; exact lays_of ds _ h.2
  | .bl b, n, h => by rw [D.py, PyData.canLay0]
  | .rdl ds, n, h => by rw [pl_rdl] at h; cases h
  | .rdt ds, n, h => by rw [pl_rdt] at h; cases h
  | .ins C fs, n, h => by rw [pl_ins] at h; cases h
  | .exo a, n, h => by rw [pl_exo] at h; cases h
  | .exd a b c, n, h => by rw [pl_exd] at h; cases h
  | .ob a b, n, h => by rw [pl_ob] at h; cases h
  | .dk a, n, h => by rw [pl_dk] at h; cases h
  | .dt a, n, h => by rw [pl_dt] at h; cases h
theorem lays_of : ∀ (ds : List D) (n : Nat), pls ds n = true → PyData.canLayAll0 (pys ds) = true
  | [], n, h => by rw [pys, PyData.canLayAll0]
  | d :: ds, n, h => by
    rw [pls, Bool.and_eq_true] at h
    rw [pys, PyData.canLayAll0, lay_of d n h.1, lays_of ds n h.2, Bool.and_self]
end
mutual
theorem dep_of : ∀ (d : D) (n : Nat), pl d n = true → d.py.depth ≤ n
  | .non, n, h => by rw [D.py, PyData.depth]; exact Nat.zero_le _
  | .int i, n, h => by rw [D.py, PyData.depth]; exact Nat.zero_le _
  | .str x, n, h => by rw [D.py, PyData.depth]; exact Nat.zero_le _
  | .lst ds, n, h => by
    rw [pl, Bool.and_eq_true] at h
    have h1 := of_decide_eq_true h.1
    have h2 := deps_of ds _ h.2
    rw [D.py, PyData.depth]; omega
  | .tup ds, n, h => by
    rw [pl, Bool.and_eq_true] at h
    have h1 := of_decide_eq_true h.1
    have h2 := deps_of ds _ h.2
    rw [D.py, PyData.depth]; omega
  | .bl b, n, h => by rw [D.py, PyData.depth]; exact Nat.zero_le _
  | .rdl ds, n, h => by rw [pl_rdl] at h; cases h
  | .rdt ds, n, h => by rw [pl_rdt] at h; cases h
  | .ins C fs, n, h => by rw [pl_ins] at h; cases h
  | .exo a, n, h => by rw [pl_exo] at h; cases h
  | .exd a b c, n, h => by rw [pl_exd] at h; cases h
  | .ob a b, n, h => by rw [pl_ob] at h; cases h
  | .dk a, n, h => by rw [pl_dk] at h; cases h
  | .dt a, n, h => by rw [pl_dt] at h; cases h
theorem deps_of : ∀ (ds : List D) (n : Nat), pls ds n = true → PyData.depthAll (pys ds) ≤ n
  | [], n, h => by rw [pys, PyData.depthAll]; exact Nat.zero_le _
  | d :: ds, n, h => by
    rw [pls, Bool.and_eq_true] at h
    have h1 := dep_of d n h.1
    have h2 := deps_of ds n h.2
    rw [pys, PyData.depthAll]; omega
end
mutual
theorem eqv_of : ∀ (d e : D) (n m : Nat), pl d n = true → pl e m = true → cp d e = true → (PyData.eqv d.py e.py = true ↔ d = e)
  | .non, e, n, m, h, h', c => by
    cases e <;> first | (rw [pl_rdl] at h'; cases h') | (rw [pl_rdt] at h'; cases h') | (rw [pl_ins] at h'; cases h') | (rw [pl_exo] at h'; cases h') | (rw [pl_exd] at h'; cases h') | (rw [pl_ob] at h'; cases h') | (rw [pl_dk] at h'; cases h') | (rw [pl_dt] at h'; cases h') | simp [D.py, PyData.eqv]
  | .int i, e, n, m, h, h', c => by
    cases e <;> first | (rw [pl_rdl] at h'; cases h') | (rw [pl_rdt] at h'; cases h') | (rw [pl_ins] at h'; cases h') | (rw [pl_exo] at h'; cases h') | (rw [pl_exd] at h'; cases h') | (rw [pl_ob] at h'; cases h') | (rw [pl_dk] at h'; cases h') | (rw [pl_dt] at h'; cases h') | (simp [cp] at c; done) | simp [D.py, PyData.eqv]
  | .str x, e, n, m, h, h', c => by
    cases e <;> first | (rw [pl_rdl] at h'; cases h') | (rw [pl_rdt] at h'; cases h') | (rw [pl_ins] at h'; cases h') | (rw [pl_exo] at h'; cases h') | (rw [pl_exd] at h'; cases h') | (rw [pl_ob] at h'; cases h') | (rw [pl_dk] at h'; cases h') | (rw [pl_dt] at h'; cases h') | simp [D.py, PyData.eqv]
  | .bl b, e, n, m, h, h', c => by
    cases e <;> first | (rw [pl_rdl] at h'; cases h') | (rw [pl_rdt] at h'; cases h') | (rw [pl_ins] at h'; cases h') | (rw [pl_exo] at h'; cases h') | (rw [pl_exd] at h'; cases h') | (rw [pl_ob] at h'; cases h') | (rw [pl_dk] at h'; cases h') | (rw [pl_dt] at h'; cases h') | (simp [cp] at c; done) | skip
    case bl b' => cases b <;> cases b' <;> simp [D.py, PyData.eqv]
    all_goals simp [D.py, PyData.eqv]
  | .lst ds, e, n, m, h, h', c => by
    cases e <;> first | (rw [pl_rdl] at h'; cases h') | (rw [pl_rdt] at h'; cases h') | (rw [pl_ins] at h'; cases h') | (rw [pl_exo] at h'; cases h') | (rw [pl_exd] at h'; cases h') | (rw [pl_ob] at h'; cases h') | (rw [pl_dk] at h'; cases h') | (rw [pl_dt] at h'; cases h') | skip
    case lst es =>
      rw [pl, Bool.and_eq_true] at h h'
      rw [cp] at c
      rw [D.py, D.py, PyData.eqv, eqvs_of ds es _ _ h.2 h'.2 c, D.lst.injEq]
    all_goals simp [D.py, PyData.eqv]
  | .tup ds, e, n, m, h, h', c => by
    cases e <;> first | (rw [pl_rdl] at h'; cases h') | (rw [pl_rdt] at h'; cases h') | (rw [pl_ins] at h'; cases h') | (rw [pl_exo] at h'; cases h') | (rw [pl_exd] at h'; cases h') | (rw [pl_ob] at h'; cases h') | (rw [pl_dk] at h'; cases h') | (rw [pl_dt] at h'; cases h') | skip
    case tup es =>
      rw [pl, Bool.and_eq_true] at h h'
      rw [cp] at c
      rw [D.py, D.py, PyData.eqv, eqvs_of ds es _ _ h.2 h'.2 c, D.tup.injEq]
    all_goals simp [D.py, PyData.eqv]
  | .rdl ds, e, n, m, h, h', c => by rw [pl_rdl] at h; cases h
  | .rdt ds, e, n, m, h, h', c => by rw [pl_rdt] at h; cases h
  | .ins C fs, e, n, m, h, h', c => by rw [pl_ins] at h; cases h
  | .exo a, e, n, m, h, h', c => by rw [pl_exo] at h; cases h
  | .exd a b c, e, n, m, h, h', _ => by rw [pl_exd] at h; cases h
  | .ob a b, e, n, m, h, h', _ => by rw [pl_ob] at h; cases h
  | .dk a, e, n, m, h, h', _ => by rw [pl_dk] at h; cases h
  | .dt a, e, n, m, h, h', _ => by rw [pl_dt] at h; cases h
theorem eqvs_of : ∀ (ds es : List D) (n m : Nat), pls ds n = true → pls es m = true → cps ds es = true → (PyData.eqvAll (pys ds) (pys es) = true ↔ ds = es)
  | [], [], n, m, _, _, _ => by simp [pys, PyData.eqvAll]
  | [], e :: es, n, m, _, _, _ => by simp [pys, PyData.eqvAll]
  | d :: ds, [], n, m, _, _, _ => by simp [pys, PyData.eqvAll]
  | d :: ds, e :: es, n, m, h, h', c => by
    rw [pls, Bool.and_eq_true] at h h'
    rw [cps, Bool.and_eq_true] at c
    rw [pys, pys, PyData.eqvAll, Bool.and_eq_true, eqv_of d e n m h.1 h'.1 c.1, eqvs_of ds es n m h.2 h'.2 c.2, List.cons.injEq]
end
open Classical in
noncomputable def gEq : D → D → Option D
  | .bl a, .bl b => some (.bl (a == b))
  | a, b => if pl a 60 = true ∧ pl b 60 = true ∧ cp a b = true then some (.bl (decide (a = b))) else none
noncomputable def gNe (a b : D) : Option D := match gEq a b with
  | some (.bl x) => some (.bl (!x))
  | _ => none
open Classical in
theorem gEq_pl {a b : D} (ha : pl a 60 = true) (hb : pl b 60 = true) (hc : cp a b = true) : gEq a b = some (.bl (decide (a = b))) := by
  unfold gEq
  split
  · congr 2
    rename_i x y
    cases x <;> cases y <;> simp
  · rw [if_pos ⟨ha, hb, hc⟩]
def rEqA (K : PySem.W.Frag) : R2 := fun x y H Q => rEq x y H Q ∨ rEqD K x y H Q
def rNeA (K : PySem.W.Frag) : R2 := fun x y H Q => rNe x y H Q ∨ rNeD K x y H Q
open Classical in
theorem gEq_cases {a b d : D} (h : gEq a b = some d) : (∃ x y, a = .bl x ∧ b = .bl y ∧ d = .bl (x == y)) ∨ (pl a 60 = true ∧ (pl b 60 = true ∧ cp a b = true) ∧ d = .bl (decide (a = b))) := by
  unfold gEq at h
  split at h
  · exact .inl ⟨_, _, rfl, rfl, (Option.some.inj h).symm⟩
  · by_cases hp : pl a 60 = true ∧ pl b 60 = true ∧ cp a b = true
    · rw [if_pos hp] at h
      exact .inr ⟨hp.1, hp.2, (Option.some.inj h).symm⟩
    · rw [if_neg hp] at h
      cases h
theorem shaped_pl {a : D} (h : pl a 60 = true) : SeqAt.shaped a.py = true := by
  unfold SeqAt.shaped
  rw [Bool.and_eq_true]
  exact ⟨lay_of a 60 h, decide_eq_true (Nat.le_trans (dep_of a 60 h) (by decide))⟩
open Classical in
theorem eqv_dec {a b : D} (ha : pl a 60 = true) (hb : pl b 60 = true ∧ cp a b = true) : PyData.eqv a.py b.py = decide (a = b) := by
  by_cases e : a = b
  · rw [decide_eq_true e]; exact (eqv_of a b 60 60 ha hb.1 hb.2).mpr e
  · rw [decide_eq_false e]
    cases h : PyData.eqv a.py b.py with
    | false => rfl
    | true => exact absurd ((eqv_of a b 60 60 ha hb.1 hb.2).mp h) e
theorem ok_eq {K : PySem.W.Frag} : OpOk K (rEqA K) gEq := by
  intro H da db d x y Q ra rb e k
  rcases gEq_cases e with ⟨u, v, rfl, rfl, rfl⟩ | ⟨h1, h2, rfl⟩
  · rw [Rep] at ra rb
    subst ra rb
    refine .inl ⟨rfl, ?_⟩
    rw [dec_bl]
    exact k _ fun _ => rep_bl
  · refine .inr ⟨_, _, dp_of da 60 x h1 ra, dp_of db 60 y h2.1 rb, shaped_pl h1, shaped_pl h2.1, ?_⟩
    rw [eqv_dec h1 h2]
    exact k _ fun _ => rep_bl
theorem ok_ne {K : PySem.W.Frag} : OpOk K (rNeA K) gNe := by
  intro H da db d x y Q ra rb e k
  unfold gNe at e
  cases he : gEq da db with
  | none => rw [he] at e; cases e
  | some z =>
    rw [he] at e
    cases z <;> first | (cases e; done) | skip
    rename_i bz
    have ed : d = .bl (!bz) := (Option.some.inj e).symm
    subst ed
    rcases gEq_cases he with ⟨u, v, rfl, rfl, h3⟩ | ⟨h1, h2, h3⟩
    · rw [Rep] at ra rb
      subst ra rb
      refine .inl ⟨rfl, ?_⟩
      rw [dec_bl]
      cases h3
      exact k _ fun _ => rep_bl
    · refine .inr ⟨_, _, dp_of da 60 x h1 ra, dp_of db 60 y h2.1 rb, shaped_pl h1, shaped_pl h2.1, ?_⟩
      rw [eqv_dec h1 h2]
      cases h3
      exact k _ fun _ => rep_bl
section
variable {X : Cx} {W : WX} {a b c e : Expr} {pos : Pos} {f f1 f2 f3 : EB}
theorem op_eqA (hu : X.A.units + 64 < cLine) : OpR X (compareOp .Eq) (rEqA X.K) := OpR.or op_eq (op_eqD hu)
theorem op_neA (hu : X.A.units + 64 < cLine) : OpR X (compareOp .NotEq) (rNeA X.K) := OpR.or op_ne (op_neD hu)
/-! ### None, in -/
def gIsN : D → D → Option D
  | .non, .non => some (.bl true)
  | _, .non => some (.bl false)
  | _, _ => none
theorem rep_isN {K : PySem.W.Frag} {d : D} {v : V} (r : Rep K H d v) : (v = .non) ↔ d = .non := by
  cases d <;> rw [Rep] at r <;> first
    | (subst r; simp; done)
    | (obtain ⟨rfl, _⟩ := r; simp; done)
    | (obtain ⟨_, _, rfl, _⟩ := r; simp; done)
    | (obtain ⟨_, _, _, rfl, _⟩ := r; simp; done)
theorem ok_isN : OpOk X.K (fun x y H Q => y = .non ∧ Q (.bl (decide (x = .non))) H) gIsN := by
  intro H da db d x y Q ra rb e k
  have h := rep_isN ra
  cases db
  case non =>
    rw [Rep] at rb
    refine ⟨rb, ?_⟩
    by_cases hd : da = .non
    · subst hd
      cases e
      rw [decide_eq_true (h.mpr rfl)]; exact k _ fun _ => rep_bl
    · have e' : d = .bl false := by cases da <;> first | exact absurd rfl hd | exact (Option.some.inj e).symm
      subst e'
      rw [decide_eq_false fun z => hd (h.mp z)]
      exact k _ fun _ => rep_bl
  all_goals (cases da <;> cases e)
/-- x in a list or tuple of ints -/
def intsOf : List D → Option (List Int)
  | [] => some []
  | .int i :: r => (intsOf r).map fun l => i :: l
  | _ :: _ => none
theorem intsOf_eq : ∀ {ds : List D} {ns : List Int}, intsOf ds = some ns → ds = ns.map D.int
  | [], ns, h => by cases h; rfl
  | .int i :: r, ns, h => by
    unfold intsOf at h
    cases hr : intsOf r with
    | none => rw [hr] at h; cases h
    | some l => rw [hr] at h; cases h; rw [intsOf_eq hr]; rfl
  | .non :: _, ns, h => by cases h
  | .bl _ :: _, ns, h => by cases h
  | .str _ :: _, ns, h => by cases h
  | .lst _ :: _, ns, h => by cases h
  | .tup _ :: _, ns, h => by cases h
  | .rdl _ :: _, ns, h => by cases h
  | .rdt _ :: _, ns, h => by cases h
  | .ins _ _ :: _, ns, h => by cases h
  | .exo _ :: _, ns, h => by cases h
  | .exd _ _ _ :: _, ns, h => by cases h
  | .ob _ _ :: _, ns, h => by cases h
  | .dk _ :: _, ns, h => by cases h
  | .dt _ :: _, ns, h => by cases h
theorem intsOf_ints : ∀ ns : List Int, intsOf (ns.map D.int) = some ns
  | [] => rfl
  | n :: ns => by show (intsOf (ns.map D.int)).map _ = _; rw [intsOf_ints ns]; rfl
def gIn (neg : Bool) : D → D → Option D
  | .int i, .lst ds => (intsOf ds).map fun ns => .bl (if neg then !decide (i ∈ ns) else decide (i ∈ ns))
  | .int i, .tup ds => (intsOf ds).map fun ns => .bl (if neg then !decide (i ∈ ns) else decide (i ∈ ns))
  | .int i, .rdt ds => (intsOf ds).map fun ns => .bl (if neg then !decide (i ∈ ns) else decide (i ∈ ns))
  | _, _ => none
theorem inV_ints (i : Int) : ∀ ns : List Int, inV (.int i) (ns.map V.int) = decide (i ∈ ns)
  | [] => rfl
  | n :: ns => by
    have ih := inV_ints i ns
    unfold inV at *
    rw [List.map_cons, List.any_cons, ih]
    have e : eqV (.int n) (.int i) = decide (n = i) := by
      simp only [eqV]; exact Bool.beq_eq_decide_eq _ _
    rw [e]
    by_cases h : n = i
    · subst h; simp
    · have h2 : ¬ i = n := fun z => h z.symm
      simp [h, h2]
theorem flat_ints : ∀ ns : List Int, (ns.map V.int).all flatV = true
  | [] => rfl
  | n :: ns => by rw [List.map_cons, List.all_cons, flat_ints ns]; rfl
theorem ok_in {neg : Bool} : OpOk X.K (rIn X.K neg) (gIn neg) := by
  intro H da db d x y Q ra rb e k
  cases da <;> first | cases e | skip
  rename_i i
  rw [Rep] at ra
  subst ra
  cases db <;> first | cases e | skip
  all_goals
    rename_i ds
    rw [Rep] at rb
    obtain ⟨p, xs, rfl, hp, rs⟩ := rb
    replace e : (intsOf ds).map (fun ns => D.bl (if neg then !decide (i ∈ ns) else decide (i ∈ ns))) = some d := e
    cases hi : intsOf ds with
    | none => rw [hi] at e; cases e
    | some ns =>
      rw [hi] at e
      have ed := (Option.some.inj e).symm
      have e1 := intsOf_eq hi
      subst e1
      have e2 := reps_ints rs
      subst e2
      refine ⟨p, _, rfl, by first | exact .inl (SqL.of hp) | exact .inr (hp.sqT) | exact .inr hp, rfl, flat_ints ns, ?_⟩
      rw [inV_ints]
      subst ed
      exact k _ fun _ => rep_bl
/-! ### subscripts -/
def ixD (n : Nat) : D → D → Option (Nat × D)
  | .lst ds, .int i => (atI ds i).map fun d => (n - 1, d)
  | .tup ds, .int i => if n = 0 then (atI ds i).map fun d => (0, d) else none
  | .rdl ds, .int i => (atI ds i).map fun d => (0, d)
  | .str x, .int i => if x.length ≤ sizeLine then (atI x.cps.toList i).map fun c => (0, .str ⟨#[c]⟩) else none
  | _, _ => none
def eIx (f1 f2 : EB) : EB := fun ss => match f1 ss with
  | .ok (n, a) => (match f2 ss with
    | .ok (_, b) => (match ixD n a b with
      | some r => .ok r
      | none => .no)
    | .exc e => .exc e
    | .no => .no)
  | .exc e => .exc e
  | .no => .no
theorem atI_map {α β : Type} {xs : List α} {ys : List β} {i : Int} {x : α} (hl : xs.length = ys.length) (h : atI xs i = some x) : ∃ j : Nat, xs[j]? = some x ∧ ∀ y, ys[j]? = some y → atI ys i = some y := by
  unfold atI at h
  cases hi : ixN xs.length i with
  | none => rw [hi] at h; cases h
  | some j =>
    rw [hi] at h
    refine ⟨j, h, fun y hy => ?_⟩
    unfold atI
    rw [← hl, hi]
    exact hy
theorem ixD_ok {K : PySem.W.Frag} {B H : Hp} {n m : Nat} {da db d : D} {x y : V} {Q : VK} (bh : Le B H) (ba : Bw K B H n da x) (rb : Rep K H db y) (e : ixD n da db = some (m, d)) (k : ∀ v, Bw K B H m d v → Q v H) : rIx K x y H Q := by
  cases db <;> first | (cases da <;> cases e) | skip
  rename_i i
  rw [Rep] at rb
  subst rb
  cases da <;> first | cases e | skip
  case lst ds =>
    replace e : (atI ds i).map (fun d => ((n - 1 : Nat), d)) = some (m, d) := e
    obtain ⟨p, xs, rfl, hp, hl, hx⟩ := ba.list bh
    cases hi : atI ds i with
    | none => rw [hi] at e; cases e
    | some d0 =>
      rw [hi] at e
      cases e
      obtain ⟨j, h1, h2⟩ := atI_map hl hi
      obtain ⟨v, h3, h4⟩ := hx j _ h1
      exact .inl ⟨p, xs, i, v, rfl, rfl, SqL.of hp, h2 v h3, k v h4⟩
  case tup ds =>
    replace e : (if n = 0 then (atI ds i).map (fun d => ((0 : Nat), d)) else none) = some (m, d) := e
    by_cases hn : n = 0
    · subst hn
      rw [if_pos rfl] at e
      cases hi : atI ds i with
      | none => rw [hi] at e; cases e
      | some d0 =>
        rw [hi] at e
        cases e
        obtain ⟨fp, ow⟩ := ba
        obtain ⟨_, r⟩ := ow
        rw [Rep] at r
        obtain ⟨p, xs, rfl, hp, rs⟩ := r
        obtain ⟨j, h1, h2⟩ := atI_map rs.length hi
        obtain ⟨v, h3, h4⟩ := rs.get h1
        exact .inr (.inl ⟨p, xs, i, v, rfl, rfl, (bh.tx hp).sqT, h2 v h3, k v (bw0 h4)⟩)
    · rw [if_neg hn] at e; cases e
  case rdl ds =>
    replace e : (atI ds i).map (fun d => ((0 : Nat), d)) = some (m, d) := e
    cases hi : atI ds i with
    | none => rw [hi] at e; cases e
    | some d0 =>
      rw [hi] at e
      cases e
      have r := ba.repA rfl
      rw [Rep] at r
      obtain ⟨p, xs, rfl, hp, rs⟩ := r
      obtain ⟨j, h1, h2⟩ := atI_map rs.length hi
      obtain ⟨v, h3, h4⟩ := rs.get h1
      exact .inl ⟨p, xs, i, v, rfl, rfl, bh.sqL hp, h2 v h3, k v (bw0 h4)⟩
  case str x =>
    replace e : (if x.length ≤ sizeLine then (atI x.cps.toList i).map fun c => ((0 : Nat), D.str ⟨#[c]⟩) else none) = some (m, d) := e
    have hz := ba.flat (B' := H) rfl
    rw [Rep] at hz
    subst hz
    by_cases hs : x.length ≤ sizeLine
    · rw [if_pos hs] at e
      cases hi : atI x.cps.toList i with
      | none => rw [hi] at e; cases e
      | some c =>
        rw [hi] at e
        cases e
        exact .inr (.inr ⟨x, i, c, rfl, rfl, hs, hi, k _ (bw0 rep_str)⟩)
    · rw [if_neg hs] at e; cases e
theorem b_ix (ha : PE X a (tB X.K W f1)) (hb : PE X b (tB X.K W f2)) (hs : PlainIx b := by exact fun _ _ => rfl) : PE X (.Subscript a b pos) (tB X.K W (eIx f1 f2)) := by
  refine pe_w (pe_ix ix_seq ha hb hs) fun σ H Q hq => tB_cut hq fun B ss fps pi k => ?_
  unfold eIx at k
  cases h1 : f1 ss with
  | ok r1 =>
    obtain ⟨n1, d1⟩ := r1
    rw [h1] at k
    intro B1 x H1 s1 bx
    cases h2 : f2 ss with
    | ok r2 =>
      obtain ⟨n2, d2⟩ := r2
      rw [h2] at k
      refine tB_ok (pi.step s1) h2 fun B2 y H2 s2 bY => ?_
      cases hh : ixD n1 d1 d2 with
      | some r =>
        obtain ⟨m, d⟩ := r
        simp only [hh] at k
        exact ixD_ok s2.bh (bx.le s2.bb s2.hh) (bY.here s2.bh) hh fun v bv => k B2 v H2 (s1.trans s2) bv
      | none => simp only [hh] at k
    | exc e => rw [h2] at k; exact tB_exc (pi.step s1) h2 fun B2 cls dd H2 s2 ex => k B2 cls dd H2 (s1.trans s2) ex
    | no => rw [h2] at k; exact k.elim
  | exc e => rw [h1] at k; exact k
  | no => rw [h1] at k; exact k
end
end Mv
namespace Mv
open PySem L2
/-! ### new lists, new tuples -/
/-- a tuple is made, known to the object -/
def NewT (H : Hp) (xs : List V) (Q : VK) : Prop := ∀ p o, H p = none → o.dict = none → Q (.ref p) (upd H p (.frz o (.tup xs)))
theorem laidX {X : Cx} {pins : List (Addr × Obj)} {s : Shared} {σ : L2.St} {H : Hp} {Q : VK} {xs : List V} {us : List Value} (it : Inv X pins σ H s) (r : Vals xs us) (z : xs.length ≤ sizeLine) (q : NewT H xs Q) :
    L2.EP X pins σ Q (.ref s.heap.objs.size) { s with heap := s.heap.push { cls := .type "tuple", data := .seq us.toArray } } := by
  have none' : H s.heap.objs.size = none := it.hok.fresh (Nat.le_refl _)
  have here : (s.heap.push { cls := .type "tuple", data := .seq us.toArray }).get? s.heap.objs.size = some { cls := .type "tuple", data := .seq us.toArray } := Heap.get?_push_size _ rfl
  refine ⟨.ref s.heap.objs.size, upd H s.heap.objs.size (.frz { cls := .type "tuple", data := .seq us.toArray } (.tup xs)), ?_, rfl, q _ _ none' rfl⟩
  exact it.laid (t' := s.toks) (fun b u e => Heap.get?_push_of_some _ e) (Nat.le_refl _) ⟨here, z, us, r, _, here, rfl, _, rfl⟩
def tTupX (t : TA) : TE := fun σ H Q => t σ H fun xs H1 => xs.length ≤ sizeLine ∧ NewT H1 xs Q
theorem pe_tupX {X : Cx} {es : List Expr} {t : TA} {x1 : Nat} {pos : Pos} (h : PA X es t) : PE X (.Tuple es x1 pos) (tTupX t) := by
  constructor
  intro pins s σ H Q it want
  apply wpAny_Tuple_spliced
  refine thn (h.run pos pins s σ H _ it want) ?_
  rintro us s1 ⟨xs, H1, it1, r, z, q⟩
  exact ⟨r.length ▸ z, laidX it1 r z q⟩
section
variable {K : PySem.W.Frag} {B H B1 H1 : Hp}
theorem all_of_reps : ∀ {ds : List D} {xs : List V}, Reps K B ds xs → All3 (Ow K B H 0) ds xs (ds.map fun _ => [])
  | [], xs, h => by rw [Reps] at h; subst h; exact .nil
  | d :: ds, xs, h => by
    rw [Reps] at h; obtain ⟨v, vs, rfl, h1, h2⟩ := h
    exact .cons ⟨rfl, h1⟩ (all_of_reps h2)
theorem reps_of_all : ∀ {ds : List D} {xs : List V} {fps : List (List Addr)}, All3 (Ow K B H 0) ds xs fps → Reps K B ds xs
  | _, _, _, .nil => reps_nil
  | _, _, _, .cons r t => reps_cons r.2 (reps_of_all t)
theorem flat_nils {α β : Type} : ∀ ds : List α, (ds.map fun _ => ([] : List β)).flatten = []
  | [] => rfl
  | _ :: ds => by rw [List.map_cons, List.flatten_cons, flat_nils ds]; rfl
theorem new_list {ds : List D} {xs : List V} {p : Addr} (st : Stp B H B1 H1) (rs : Reps K B1 ds xs) (hp : H1 p = none) :
    Stp B H B1 (upd H1 p (.lst xs)) ∧ New K H B1 (upd H1 p (.lst xs)) 1 (.lst ds) (.ref p) [p] := by
  refine ⟨⟨st.bb, st.hh.trans (Le.new hp), st.bh.trans (Le.new hp), st.dj⟩, ⟨.inl ⟨ds, p, xs, ds.map fun _ => [], rfl, rfl, upd_same, by rw [flat_nils], all_of_reps rs⟩, List.nodup_cons.mpr ⟨(fun z => nomatch z), List.nodup_nil⟩, fun a ha => ?_⟩⟩
  rw [List.mem_singleton] at ha
  subst ha
  exact ⟨st.bh.back hp, st.hh.back hp⟩
theorem new_tup {ds : List D} {xs : List V} {p : Addr} {o : Obj} (st : Stp B H B1 H1) (rs : Reps K B1 ds xs) (hp : H1 p = none) (bare : o.dict = none) :
    Stp B H (upd B1 p (.frz o (.tup xs))) (upd H1 p (.frz o (.tup xs))) ∧ Rep K (upd B1 p (.frz o (.tup xs))) (.tup ds) (.ref p) := by
  have e : Le B1 (upd B1 p (.frz o (.tup xs))) := Le.new (st.bh.back hp)
  refine ⟨⟨st.bb.trans e, st.hh.trans (Le.new hp), fun a o h => ?_, fun a h1 h2 => ?_⟩, ?_⟩
  · by_cases ha : a = p
    · subst ha; rw [upd_same] at *; exact h
    · rw [upd_ne ha] at *; exact st.bh a o h
  · have ha : a ≠ p := fun z => by obtain ⟨xs, h2⟩ := h2.some; rw [z, st.hh.back hp] at h2; cases h2
    rw [upd_ne ha]; exact st.dj a h1 h2
  · rw [Rep]; exact ⟨p, xs, rfl, ⟨o, upd_same, bare⟩, Reps.mono e _ _ rs⟩
/-- a list at most one level deep: its items stand in the base -/
theorem Bw.items (bh : Le B H) {n : Nat} {ds : List D} {v : V} (hn : n ≤ 1) (h : Bw K B H n (.lst ds) v) : ∃ p xs, v = .ref p ∧ H p = some (.lst xs) ∧ Reps K B ds xs := by
  obtain ⟨fp, h⟩ := h
  match n, hn, h with
  | 0, _, h =>
    obtain ⟨_, h⟩ := h
    rw [Rep] at h
    obtain ⟨a, xs, h1, h2, h3⟩ := h
    exact ⟨a, xs, h1, bh _ _ h2, h3⟩
  | 1, _, h =>
    obtain ⟨ds', p, xs, fps, e, h1, hp, _, al⟩ := h.lstO
    cases e
    exact ⟨p, xs, h1, hp, reps_of_all al⟩
end
def eLst (ga : EA) : EB := fun ss => match ga ss with
  | .ok ds => if ds.length ≤ 10000000 then .ok (1, .lst ds) else .no
  | .exc e => .exc e
  | .no => .no
def eTup (ga : EA) : EB := fun ss => match ga ss with
  | .ok ds => if ds.length ≤ 10000000 then .ok (0, .tup ds) else .no
  | .exc e => .exc e
  | .no => .no
theorem size_ok {n : Nat} (h : n ≤ 10000000) : n ≤ sizeLine := by rw [sizeLine_eq]; omega
section
variable {X : Cx} {W : WX} {a b c e : Expr} {es : List Expr} {pos : Pos} {f f1 f2 f3 : EB} {g1 : EA}
theorem m_lst (h : PA X es (tA X.K W g1)) : PE X (.List es pos) (tM X.K W (eLst g1)) := by
  refine pe_w (pe_lst h) fun σ H Q hq => ?_
  obtain ⟨B, ss, fps, pi, k⟩ := hq
  refine ⟨B, ss, fps, pi, ?_⟩
  unfold eLst at k
  cases h : g1 ss with
  | ok ds =>
    rw [h] at k
    intro B1 vs H1 s1 rs
    by_cases hz : ds.length ≤ 10000000
    · simp only [hz, if_true] at k
      refine ⟨by rw [← rs.length]; exact size_ok hz, fun p hp => ?_⟩
      obtain ⟨q1, q2⟩ := new_list s1 rs hp
      exact k _ _ _ _ q1 q2
    · simp only [hz, if_false] at k
  | exc e => rw [h] at k; exact k
  | no => rw [h] at k; exact k
theorem b_tup {x1 : Nat} (h : PA X es (tA X.K W g1)) : PE X (.Tuple es x1 pos) (tB X.K W (eTup g1)) := by
  refine pe_w (pe_tupX h) fun σ H Q hq => ?_
  obtain ⟨B, ss, fps, pi, k⟩ := hq
  refine ⟨B, ss, fps, pi, ?_⟩
  unfold eTup at k
  cases h : g1 ss with
  | ok ds =>
    rw [h] at k
    intro B1 vs H1 s1 rs
    by_cases hz : ds.length ≤ 10000000
    · simp only [hz, if_true] at k
      refine ⟨by rw [← rs.length]; exact size_ok hz, fun p o hp ho => ?_⟩
      obtain ⟨q1, q2⟩ := new_tup s1 rs hp ho
      exact k _ _ _ q1 (bw0 q2)
    · simp only [hz, if_false] at k
  | exc e => rw [h] at k; exact k
  | no => rw [h] at k; exact k
/-! ### slices of lists -/
end
abbrev EP := En → Res (Option Int)
def pNone : EP := fun _ => .ok none
def pSome (f : EB) : EP := fun ss => match f ss with
  | .ok (_, .int i) => .ok (some i)
  | .ok (_, _) => .no
  | .exc e => .exc e
  | .no => .no
end Mv
namespace Mv
open PySem L2
/-! ### slots change -/
section
variable {K : PySem.W.Frag} {B0 H0 B B' H H' : Hp} {σ : St} {ss : En} {fps : List (List Addr)}
theorem nodup_set {fps : List (List Addr)} {fp : List Addr} (h : fps.flatten.Nodup) (hf : fp.Nodup) : ∀ (i : Nat), (∀ c, fps[i]? ≠ some c → True) → (∀ a ∈ fp, ∀ c ∈ fps, a ∈ c → ∃ o, fps[i]? = some o ∧ a ∈ o) → (fps.set i fp).flatten.Nodup := by
  induction fps with
  | nil => intro i _ _; simp
  | cons c cs ih =>
    intro i _ hd
    rw [List.flatten_cons] at h
    obtain ⟨h1, h2, h3⟩ := List.nodup_append.mp h
    cases i with
    | zero =>
      rw [List.set_cons_zero, List.flatten_cons]
      refine List.nodup_append.mpr ⟨hf, h2, fun a ha b hb e => ?_⟩
      subst e
      obtain ⟨c', hc', hac'⟩ := List.mem_flatten.mp hb
      obtain ⟨o, ho, hao⟩ := hd a ha c' (List.mem_cons_of_mem _ hc') hac'
      simp at ho
      subst ho
      exact h3 a hao a hb rfl
    | succ i =>
      rw [List.set_cons_succ, List.flatten_cons]
      have hd' : ∀ a ∈ fp, ∀ c' ∈ cs, a ∈ c' → ∃ o, cs[i]? = some o ∧ a ∈ o := fun a ha c' hc' hac' => by
        obtain ⟨o, ho, hao⟩ := hd a ha c' (List.mem_cons_of_mem _ hc') hac'
        exact ⟨o, by simpa using ho, hao⟩
      refine List.nodup_append.mpr ⟨h1, ih h2 i (fun _ _ => True.intro) hd', fun a ha b hb e => ?_⟩
      subst e
      obtain ⟨c', hc', hac'⟩ := List.mem_flatten.mp hb
      have hm : c' ∈ cs ∨ c' = fp := by
        rcases List.mem_or_eq_of_mem_set hc' with z | z
        · exact .inl z
        · exact .inr z
      rcases hm with z | z
      · exact h3 a ha a (mem_fl z hac') rfl
      · subst z
        obtain ⟨o, ho, hao⟩ := hd a hac' c List.mem_cons_self ha
        have ho' : cs[i]? = some o := by simpa using ho
        exact h3 a ha a (mem_fl (List.mem_of_getElem? ho') hao) rfl
theorem nd_mem : ∀ {fps : List (List Addr)} {fp : List Addr}, fps.flatten.Nodup → fp ∈ fps → fp.Nodup
  | [], _, _, h => nomatch h
  | c :: cs, fp, nd, h => by
    rw [List.flatten_cons] at nd
    obtain ⟨n1, n2, _⟩ := List.nodup_append.mp nd
    obtain e | e := List.mem_cons.mp h
    · rw [e]; exact n1
    · exact nd_mem n2 e
theorem mem_set_fl {fps : List (List Addr)} {fp : List Addr} {i : Nat} {a : Addr} (h : a ∈ (fps.set i fp).flatten) : a ∈ fps.flatten ∨ a ∈ fp := by
  obtain ⟨c, hc, hac⟩ := List.mem_flatten.mp h
  rcases List.mem_or_eq_of_mem_set hc with z | z
  · exact .inl (mem_fl z hac)
  · subst z; exact .inr hac
theorem Rw.put {n : Nat} {d : D} {v : V} {fp : List Addr} (r : Rw K H0 B H n d v fp fps) (i : Nat) : Rw K H0 B H n d v fp (fps.set i []) :=
  ⟨r.ow, r.nd, fun a ha => ⟨fun z => (mem_set_fl z).elim (r.fr a ha).1 (fun w => nomatch w), (r.fr a ha).2⟩⟩
/-- a fresh value goes into a slot -/
theorem SI.store (h : SI K B0 H0 B σ H ss fps) (st : Stp B H B' H') {n : Nat} {d : D} {v : V} {fp : List Addr} (nw : New K H B' H' n d v fp) (i : Nat) : SI K B0 H0 B' (σ.set i (some v)) H' (ss.set i (.v n d)) (fps.set i fp) := by
  have h' := h.step st
  have fresh : ∀ a ∈ fp, a ∉ fps.flatten := fun a ha hm => by
    obtain ⟨xs, e⟩ := (h.pi.here a hm).some
    rw [(nw.fr a ha).2] at e; cases e
  refine ⟨⟨h'.pi.bh, h'.pi.al.set (a := Sl.v n d) (b := some v) ⟨v, rfl, nw.ow⟩ i, nodup_set h'.pi.nd nw.nd i (fun _ _ => True.intro) fun a ha c hc hac => absurd (mem_fl hc hac) (fresh a ha), fun a ha => ?_⟩, h'.st, fun a ha => ?_⟩
  · rcases mem_set_fl ha with z | z
    · exact h'.pi.fr a z
    · exact (nw.fr a z).1
  · rcases mem_set_fl ha with z | z
    · exact h'.fr a z
    · exact h.st.hh.back (nw.fr a z).2
/-- the slots of a def at its start -/
theorem all_start : ∀ {ds : List D} {vs : List V}, Reps K B ds vs → All3 (slotOk K B H) (ds.map (Sl.v 0)) (vs.map some) (ds.map fun _ => [])
  | [], vs, h => by rw [Reps] at h; subst h; exact .nil
  | d :: ds, vs, h => by
    rw [Reps] at h; obtain ⟨v, us, rfl, h1, h2⟩ := h
    exact .cons ⟨v, rfl, rfl, h1⟩ (all_start h2)
theorem all_un : ∀ n : Nat, All3 (slotOk K B H) (List.replicate n Sl.un) (List.replicate n none) (List.replicate n [])
  | 0 => .nil
  | n + 1 => .cons rfl (all_un n)
theorem flat_reps {α : Type} : ∀ n : Nat, (List.replicate n ([] : List α)).flatten = []
  | 0 => rfl
  | n + 1 => by rw [List.replicate_succ, List.flatten_cons, flat_reps n]; rfl
theorem SI.start {ds : List D} {vs : List V} (bh : Le B H) (rs : Reps K B ds vs) (n : Nat) : SI K B H B (vs.map some ++ List.replicate n none) H (ds.map (Sl.v 0) ++ List.replicate n .un) (ds.map (fun _ => []) ++ List.replicate n []) := by
  have e : (ds.map (fun _ => ([] : List Addr)) ++ List.replicate n []).flatten = [] := by rw [List.flatten_append, flat_nils, flat_reps]; rfl
  refine ⟨⟨bh, (all_start rs).append (all_un n), by rw [e]; exact List.nodup_nil, fun a ha => ?_⟩, .refl bh, fun a ha => ?_⟩
  · rw [e] at ha; cases ha
  · rw [e] at ha; cases ha
end
/-! ### statements -/
def sSeq (F G : SM) : SM := fun ss => match F ss with
  | .nx s' => G s'
  | o => o
def sNext : SM := .nx
def sAsg (i : Nat) (f : EB) : SM := fun ss => match f ss with
  | .ok (n, d) => .nx (ss.set i (.v n d))
  | .exc e => .exc e ss
  | .no => .no
def sRet (f : EB) : SM := fun ss => match f ss with
  | .ok (n, d) => .rt n d
  | .exc e => .exc e ss
  | .no => .no
def sIf (t : ET) (F G : SM) : SM := fun ss => match t ss with
  | .ok true => F ss
  | .ok false => G ss
  | .exc e => .exc e ss
  | .no => .no
/-- return x: what the slot owns goes out -/
def sRetV (i : Nat) : SM := fun ss => match ss[i]? with
  | some (.v n d) => .rt n d
  | _ => .no
section
variable {X : Cx} {W : WX} {a b c e : Expr} {st : Stmt} {rest : List Stmt} {pos : Pos} {f f1 f2 f3 : EB} {t1 : ET} {F G : SM}
theorem seq_of {D : Ends} {σ : L2.St} {H : Hp} (hq : tS X.K W (sSeq F G) D σ H) : tSeq (tS X.K W F) (tS X.K W G) D σ H := by
  obtain ⟨B0, H0, B, ss, fps, si, k⟩ := hq
  refine ⟨B0, H0, B, ss, fps, si, ?_⟩
  unfold sSeq at k
  cases h : F ss with
  | nx s' =>
    rw [h] at k
    intro B1 σ1 H1 fps1 si1
    exact ⟨B0, H0, B1, s', fps1, si1, k⟩
  | rt n d => rw [h] at k; exact k
  | bk s' => rw [h] at k; exact k
  | ct s' => rw [h] at k; exact k
  | exc e s' => rw [h] at k; exact k
  | ru d s' => rw [h] at k; exact k
  | rn n d s' => rw [h] at k; exact k
  | no => rw [h] at k; exact k
theorem ss_nil : PSs X [] (tS X.K W sNext) := by
  refine pss_w pss_nil fun D σ H hq => ?_
  obtain ⟨B0, H0, B, ss, fps, si, k⟩ := hq
  exact k B σ H fps si
theorem ss_cons (h1 : PS X st (tS X.K W F)) (h2 : PSs X rest (tS X.K W G)) : PSs X (st :: rest) (tS X.K W (sSeq F G)) := pss_w (pss_cons h1 h2) fun D σ H hq => seq_of hq
theorem ss_one (h1 : PS X st (tS X.K W F)) : PSs X [st] (tS X.K W F) := pss_one h1
theorem asg_of {i : Nat} {D : Ends} {σ : L2.St} {H : Hp} (hq : tS X.K W (sAsg i f) D σ H) : tAsg (tM X.K W f) (gName i) D σ H := by
  obtain ⟨B0, H0, B, ss, fps, si, k⟩ := hq
  refine ⟨B, ss, fps, si.pi, ?_⟩
  unfold sAsg at k
  cases h : f ss with
  | ok r =>
    obtain ⟨n, d⟩ := r
    rw [h] at k
    exact fun B' v H' fp st nw => k B' _ H' _ (si.store st nw i)
  | exc e => rw [h] at k; exact fun B' cls dd H' st ex => k B' σ H' fps cls dd (si.step st) ex
  | no => rw [h] at k; exact k
theorem s_set {i : Nat} {x : Str} {pos' : Pos} (hN : X.N.Nodup) (hi : X.N[i]? = some x) (hx : Loc X.env.scope x) (he : PE X e (tM X.K W f)) (hs : swapsWith e (some (.Name x pos')) pos.line X.env = pure false := by rfl) (hf : X.fn x = true ∨ X.env.scope.names.lookup x = some .local := by first | exact .inl rfl | exact .inr rfl | assumption) :
    PS X (.Assign [.Name x pos'] e pos) (tS X.K W (sAsg i f)) := ps_w (ps_set hN hi hx he hs hf) fun D σ H hq => asg_of hq
theorem s_ret (he : PE X e (tM X.K W f)) : PS X (.Return (some e) pos) (tS X.K W (sRet f)) := by
  refine ps_w (ps_ret he) fun D σ H hq => ?_
  obtain ⟨B0, H0, B, ss, fps, si, k⟩ := hq
  refine ⟨B, ss, fps, si.pi, ?_⟩
  unfold sRet at k
  cases h : f ss with
  | ok r =>
    obtain ⟨n, d⟩ := r
    rw [h] at k
    exact fun B' v H' fp st nw => k B' v H' fp (si.st.trans st) ⟨nw.ow, nw.nd, fun a ha => ⟨(nw.fr a ha).1, si.st.hh.back (nw.fr a ha).2⟩⟩
  | exc e => rw [h] at k; exact fun B' cls dd H' st ex => k B' σ H' fps cls dd (si.step st) ex
  | no => rw [h] at k; exact k
theorem s_retV (i : Nat) {x : Str} {p : Pos} (hN : X.N[i]? = some x := by rfl) (hv : Vis X.env.scope x := by first | exact Or.inl rfl | exact Or.inr (Or.inl rfl) | exact Or.inr (Or.inr rfl)) (hd : (x == ("__debug__" : Str)) = false := by decide)
    (hcd : (x == ("__classdict__" : Str)) = false := by decide) : PS X (.Return (some (.Name x p)) pos) (tS X.K W (sRetV i)) := by
  refine ps_w (ps_ret (pe_var hN hv hd hcd)) fun D σ H hq => ?_
  obtain ⟨B0, H0, B, ss, fps, si, k⟩ := hq
  unfold sRetV at k
  cases hs : ss[i]? with
  | none => rw [hs] at k; exact k.elim
  | some s =>
    rw [hs] at k
    cases s with
    | un => exact k.elim
    | o w n d => exact k.elim
    | s a C fs => exact k.elim
    | v n d =>
      obtain ⟨o, fp, h1, h2, v, h3, h4⟩ := si.pi.al.get hs
      subst h3
      have hm : fp ∈ fps := List.mem_of_getElem? h2
      exact ⟨v, h1, k B v H fp si.st ⟨h4, nd_mem si.pi.nd hm, fun a ha => ⟨si.pi.fr a (mem_fl hm ha), si.fr a (mem_fl hm ha)⟩⟩⟩
theorem tS_step {K : PySem.W.Frag} {B0 H0 B B1 H H1 : Hp} {ss : En} {fps : List (List Addr)} {D : Ends} {σ : L2.St} (si : SI K B0 H0 B σ H ss fps) (s1 : Stp B H B1 H1)
    (k : match F ss with
      | .nx ss' => ∀ B' σ' H' fps', SI K B0 H0 B' σ' H' ss' fps' → D.nx σ' H'
      | .bk ss' => ∀ B' σ' H' fps', SI K B0 H0 B' σ' H' ss' fps' → D.bk σ' H'
      | .ct ss' => ∀ B' σ' H' fps', SI K B0 H0 B' σ' H' ss' fps' → D.ct σ' H'
      | .rt n d => ∀ B' v H' fp, Stp B0 H0 B' H' → New K H0 B' H' n d v fp → D.rt v H'
      | .exc e ss' => ∀ B' σ' H' fps' cls dd, SI K B0 H0 B' σ' H' ss' fps' → ExR K B' H' e cls dd → W cls dd σ' H'
      | .ru d ss' => ∀ B' v σ' H' fps', SI K B0 H0 B' σ' H' ss' fps' → Rep K B' d v → D.rt v H'
      | .rn n d ss' => ∀ B' v σ' H' fps' fp, SI K B0 H0 B' σ' H' ss' fps' → Rw K H0 B' H' n d v fp fps' → D.rt v H'
      | .no => False) : tS K W F D σ H1 := ⟨B0, H0, B1, ss, fps, si.step s1, k⟩
theorem s_if {xs ys : List Stmt} (hc : PT X c (tT X.K W t1)) (ha : PSs X xs (tS X.K W F)) (hb : PSs X ys (tS X.K W G)) : PS X (.If c xs ys pos) (tS X.K W (sIf t1 F G)) := by
  refine ps_w (ps_if hc ha hb) fun D σ H hq => ?_
  obtain ⟨B0, H0, B, ss, fps, si, k⟩ := hq
  refine ⟨B, ss, fps, si.pi, ?_⟩
  unfold sIf at k
  cases h : t1 ss with
  | ok b =>
    rw [h] at k
    cases b with
    | true => exact fun B1 H1 s1 => tS_step si s1 k
    | false => exact fun B1 H1 s1 => tS_step si s1 k
  | exc e => rw [h] at k; exact fun B' cls dd H' st ex => k B' σ H' fps cls dd (si.step st) ex
  | no => rw [h] at k; exact k
end
/-! ### freezing a slot -/
def frzSl (i : Nat) (ss : En) : En := match ss[i]? with
  | some (.v _ d) => ss.set i (.v 0 d)
  | _ => ss
def sFrz (i : Nat) (F : SM) : SM := fun ss => F (frzSl i ss)
section
variable {K : PySem.W.Frag} {B0 H0 B B' H H' : Hp} {σ : St} {ss : En} {fps : List (List Addr)}
theorem set_same {α : Type} : ∀ {xs : List α} {k : Nat} {x : α}, xs[k]? = some x → xs.set k x = xs
  | [], _, _, h => by simp at h
  | y :: ys, 0, _, h => by simp at h; subst h; rfl
  | y :: ys, k + 1, x, h => congrArg (y :: ·) (set_same (xs := ys) (k := k) (x := x) (by simpa using h))
theorem SI.freeze (h : SI K B0 H0 B σ H ss fps) (i : Nat) : ∃ B' fps', SI K B0 H0 B' σ H (frzSl i ss) fps' := by
  unfold frzSl
  cases hs : ss[i]? with
  | none => exact ⟨B, fps, h⟩
  | some s =>
    cases s with
    | un => exact ⟨B, fps, h⟩
    | o w n d => exact ⟨B, fps, h⟩
    | s a C fs => exact ⟨B, fps, h⟩
    | v n d =>
      obtain ⟨o, fp, h1, h2, v, h3, h4⟩ := h.pi.al.get hs
      subst h3
      have hm : fp ∈ fps := List.mem_of_getElem? h2
      have fN : ∀ a ∈ fp, B a = none := fun a ha => h.pi.fr a (mem_fl hm ha)
      have eB : Le B (frzH B H fp) := frz_le fN
      have eH : Le (frzH B H fp) H := frz_in h.pi.bh
      have apart : ∀ (j : Nat) c, fps[j]? = some c → j ≠ i → ∀ a ∈ c, a ∉ fp := by
        have gen : ∀ {l : List (List Addr)} {i j : Nat} {c d : List Addr}, l.flatten.Nodup → l[i]? = some c → l[j]? = some d → j ≠ i → ∀ a ∈ d, a ∉ c := by
          intro l
          induction l with
          | nil => intro i j c d _ q; simp at q
          | cons x xs ih =>
            intro i j c d nd q1 q2 ne a ha hc
            rw [List.flatten_cons] at nd
            obtain ⟨n1, n2, n3⟩ := List.nodup_append.mp nd
            cases i with
            | zero =>
              cases j with
              | zero => exact ne rfl
              | succ j =>
                simp at q1 q2
                subst q1
                exact n3 a hc a (mem_fl (List.mem_of_getElem? q2) ha) rfl
            | succ i =>
              cases j with
              | zero =>
                simp at q1 q2
                subst q2
                exact n3 a ha a (mem_fl (List.mem_of_getElem? q1) hc) rfl
              | succ j =>
                exact ih n2 (by simpa using q1) (by simpa using q2) (fun z => ne (by rw [z])) a ha hc
        intro j c hj hne
        exact gen h.pi.nd h2 hj hne
      refine ⟨frzH B H fp, fps.set i [], ⟨⟨eH, ?_, ?_, fun a ha => ?_⟩, ⟨h.st.bb.trans eB, h.st.hh, eH, fun a z1 z2 => ?_⟩, fun a ha => ?_⟩⟩
      · have base : All3 (slotOk K (frzH B H fp) H) ss σ fps := h.pi.al.imp fun s o c hc r => r.mono eB fun a ha => rfl
        have q := base.set (a := Sl.v 0 d) (b := some v) (c := []) ⟨v, rfl, rfl, frz_rep _ eB (fun a ha => frz_at ha) h4⟩ i
        rw [set_same h1] at q
        exact q
      · exact nodup_set h.pi.nd List.nodup_nil i (fun _ _ => True.intro) fun a ha => nomatch ha
      · obtain ⟨c, hc, hac⟩ := List.mem_flatten.mp ha
        obtain ⟨j, hj, ej⟩ := List.mem_iff_getElem.mp hc
        have hne : j ≠ i := fun z => by
          subst z
          rw [List.getElem_set_self] at ej
          subst ej
          cases hac
        rw [List.getElem_set_ne (Ne.symm hne)] at ej
        have hj' : j < fps.length := by rw [List.length_set] at hj; exact hj
        have e2 : fps[j]? = some c := by rw [List.getElem?_eq_getElem hj', ej]
        rw [frz_out (apart j c e2 hne a hac)]
        exact h.pi.fr a (mem_fl (List.mem_of_getElem? e2) hac)
      · by_cases ha : a ∈ fp
        · (obtain ⟨xs, z2⟩ := z2.some; rw [h.fr a (mem_fl hm ha)] at z2; cases z2)
        · rw [frz_out ha]; exact h.st.dj a z1 z2
      · rcases mem_set_fl ha with z | z
        · exact h.fr a z
        · cases z
end
section
variable {X : Cx} {W : WX} {st : Stmt} {sts : List Stmt} {F : SM}
theorem frz_of {i : Nat} {D : Ends} {σ : L2.St} {H : Hp} (hq : tS X.K W (sFrz i F) D σ H) : tS X.K W F D σ H := by
  obtain ⟨B0, H0, B, ss, fps, si, k⟩ := hq
  obtain ⟨B', fps', si'⟩ := si.freeze i
  exact ⟨B0, H0, B', _, fps', si', k⟩
theorem s_frz (i : Nat) (h : PS X st (tS X.K W F)) : PS X st (tS X.K W (sFrz i F)) := ps_w h fun D σ H hq => frz_of hq
end
end Mv
namespace Mv
open PySem L2
def Post (K : PySem.W.Frag) (W : WX) (B0 H0 : Hp) (E : Ends) : SO → Prop
  | .nx ss' => ∀ B' σ' H' fps', SI K B0 H0 B' σ' H' ss' fps' → E.nx σ' H'
  | .bk ss' => ∀ B' σ' H' fps', SI K B0 H0 B' σ' H' ss' fps' → E.bk σ' H'
  | .ct ss' => ∀ B' σ' H' fps', SI K B0 H0 B' σ' H' ss' fps' → E.ct σ' H'
  | .rt n d => ∀ B' v H' fp, Stp B0 H0 B' H' → New K H0 B' H' n d v fp → E.rt v H'
  | .exc e ss' => ∀ B' σ' H' fps' cls dd, SI K B0 H0 B' σ' H' ss' fps' → ExR K B' H' e cls dd → W cls dd σ' H'
  | .ru d ss' => ∀ B' v σ' H' fps', SI K B0 H0 B' σ' H' ss' fps' → Rep K B' d v → E.rt v H'
  | .rn n d ss' => ∀ B' v σ' H' fps' fp, SI K B0 H0 B' σ' H' ss' fps' → Rw K H0 B' H' n d v fp fps' → E.rt v H'
  | .no => False
theorem tS_get {K : PySem.W.Frag} {W : WX} {F : SM} {E : Ends} {σ : L2.St} {H : Hp} (h : tS K W F E σ H) : ∃ B0 H0 B ss fps, SI K B0 H0 B σ H ss fps ∧ Post K W B0 H0 E (F ss) := by
  obtain ⟨B0, H0, B, ss, fps, si, k⟩ := h
  refine ⟨B0, H0, B, ss, fps, si, ?_⟩
  cases h : F ss <;> (rw [h] at k; exact k)
theorem tS_mk {K : PySem.W.Frag} {W : WX} {F : SM} {E : Ends} {σ : L2.St} {B0 H0 B H : Hp} {ss : En} {fps : List (List Addr)} (si : SI K B0 H0 B σ H ss fps) (k : Post K W B0 H0 E (F ss)) : tS K W F E σ H := by
  refine ⟨B0, H0, B, ss, fps, si, ?_⟩
  cases h : F ss <;> (rw [h] at k; exact k)
/-! ### what is walked -/
def Walk (K : PySem.W.Frag) (J : It) (B1 : Hp) (ds : List D) : Prop := ∀ (i : Nat) (B H : Hp), Le B1 B → Le B H → (i < ds.length → J.go i H) ∧ (ds.length ≤ i → J.stop i H) ∧ ∀ x H' d, ds[i]? = some d → J.yld i H x H' → ∃ B', Stp B H B' H' ∧ Rep K B' d x
abbrev EI := En → Res (List D)
def tI (K : PySem.W.Frag) (W : WX) (f : EI) : TI := fun σ H R => ∃ B ss fps, Pi K B σ H ss fps ∧ match f ss with
  | .ok ds => ∀ B' H' J, Stp B H B' H' → Walk K J B' ds → R J H'
  | .exc e => ∀ B' cls dd H', Stp B H B' H' → ExR K B' H' e cls dd → W cls dd σ H'
  | .no => False
theorem pi_w {X : Cx} {tg it : Expr} {t u : TI} (h : PI X tg it t) (k : ∀ σ H R, u σ H R → t σ H R) : PI X tg it u := ⟨fun pins s σ H R I q => h.run pins s σ H R I (k σ H R q)⟩
theorem walk_list {K : PySem.W.Frag} {B : Hp} {a : Addr} {xs : List V} {ds : List D} (h : SqL K B a xs) (rs : Reps K B ds xs) : Walk K (Itl K a) B ds := fun i B' H e1 e2 => by
  have hs : SqL K H a xs := e2.sqL (e1.sqL h)
  refine ⟨fun hi => ?_, fun hi => ⟨xs, hs, by rw [← rs.length]; exact hi⟩, fun x H' d hd hy => ?_⟩
  · obtain ⟨v, h1, _⟩ := rs.get (List.getElem?_eq_getElem hi)
    exact ⟨xs, v, hs, h1⟩
  · obtain ⟨rfl, hv⟩ := hy
    obtain ⟨v, h1, h2⟩ := rs.get hd
    have e := hv xs hs
    rw [h1] at e; cases e
    exact ⟨B', .refl e2, Rep.mono e1 _ _ h2⟩
def rngD (lo : Int) (n : Nat) : List D := (List.range n).map fun (i : Nat) => .int (lo + (i : Int))
theorem rngD_get {lo : Int} {n i : Nat} {d : D} (h : (rngD lo n)[i]? = some d) : i < n ∧ d = .int (lo + (i : Int)) := by
  unfold rngD at h
  rw [List.getElem?_map] at h
  by_cases hi : i < n
  · rw [List.getElem?_range hi] at h
    exact ⟨hi, (Option.some.inj h).symm⟩
  · rw [List.getElem?_eq_none (by simpa using hi)] at h; cases h
theorem rngD_len {lo : Int} {n : Nat} : (rngD lo n).length = n := by unfold rngD; rw [List.length_map, List.length_range]
theorem walk_rng {K : PySem.W.Frag} {B : Hp} {lo : Int} {n : Nat} : Walk K (Itr lo n) B (rngD lo n) := fun i B' H e1 e2 => by
  refine ⟨fun hi => by rw [rngD_len] at hi; exact hi, fun hi => by rw [rngD_len] at hi; exact hi, fun x H' d hd hy => ?_⟩
  obtain ⟨rfl, rfl⟩ := hy
  obtain ⟨_, rfl⟩ := rngD_get hd
  exact ⟨B', .refl e2, rep_int⟩
def iSeq (f : EB) : EI := fun ss => match f ss with
  | .ok (0, .lst ds) => .ok ds
  | .ok (0, .rdl ds) => .ok ds
  | .ok (_, _) => .no
  | .exc e => .exc e
  | .no => .no
def smallI (i : Int) : Bool := decide (-(2 ^ 62) ≤ i) && decide (i < 2 ^ 62)
def iRg1 (g : EA) : EI := fun ss => match g ss with
  | .ok [.int j] => if smallI j then .ok (rngD 0 j.toNat) else .no
  | .ok _ => .no
  | .exc e => .exc e
  | .no => .no
section
variable {X : Cx} {W : WX} {tg a b c e : Expr} {pos p : Pos} {f : EB} {g1 : EA}
theorem i_list (h : PE X e (tB X.K W f)) : PI X tg e (tI X.K W (iSeq f)) := by
  refine pi_w (pi_list h) fun σ H R hq => ?_
  obtain ⟨B, ss, fps, pi, k⟩ := hq
  refine ⟨B, ss, fps, pi, ?_⟩
  unfold iSeq at k
  cases h : f ss with
  | ok r =>
    obtain ⟨n, d⟩ := r
    rw [h] at k
    cases n <;> cases d <;> first | exact k.elim | skip
    · intro B1 v H1 s1 bw
      have r := bw.rep
      rw [Rep] at r
      obtain ⟨a, xs, rfl, ha, rs⟩ := r
      exact ⟨a, rfl, ⟨xs, SqL.of (s1.bh _ _ ha)⟩, k B1 H1 _ s1 (walk_list (SqL.of ha) rs)⟩
    · intro B1 v H1 s1 bw
      have r := bw.rep
      rw [Rep] at r
      obtain ⟨a, xs, rfl, ha, rs⟩ := r
      exact ⟨a, rfl, ⟨xs, s1.bh.sqL ha⟩, k B1 H1 _ s1 (walk_list ha rs)⟩
  | exc e => rw [h] at k; exact k
  | no => rw [h] at k; exact k
theorem reps1 {K : PySem.W.Frag} {B : Hp} {i : Int} {vs : List V} (h : Reps K B [.int i] vs) : vs = [.int i] := by
  rw [Reps] at h; obtain ⟨v, us, rfl, h1, h2⟩ := h
  rw [Reps] at h2; rw [Rep] at h1; rw [h1, h2]
theorem reps2 {K : PySem.W.Frag} {B : Hp} {i j : Int} {vs : List V} (h : Reps K B [.int i, .int j] vs) : vs = [.int i, .int j] := by
  rw [Reps] at h; obtain ⟨v, us, rfl, h1, h2⟩ := h
  rw [reps1 h2]; rw [Rep] at h1; rw [h1]
theorem smallI_of {i : Int} (h : smallI i = true) : -(2 ^ 62) ≤ i ∧ i < 2 ^ 62 := by
  unfold smallI at h
  rw [Bool.and_eq_true] at h
  exact ⟨of_decide_eq_true h.1, of_decide_eq_true h.2⟩
theorem i_range1 (hg : Gl X "range") (hm : X.mg "range" = none) (ha : PA X [a] (tAh X.K W g1)) (hs : starEach [a] X.env = [(false, eval a X.env)] := by rfl) : PI X tg (.Call (.Name "range" p) [a] [] pos) (tI X.K W (iRg1 g1)) := by
  refine pi_w (pi_range1 hg hm ha hs) fun σ H R hq => ?_
  obtain ⟨B, ss, fps, pi, k⟩ := hq
  refine ⟨B, ss, fps, pi, ?_⟩
  unfold iRg1 at k
  cases h : g1 ss with
  | ok ds =>
    rw [h] at k
    match ds, k with
    | [], k => exact k.elim
    | [.int j], k =>
      intro B1 vs H1 s1 rs
      rw [reps1 rs]
      cases hj : smallI j with
      | false => simp only [hj] at k; exact absurd k (by simp)
      | true =>
        simp only [hj, if_true] at k
        obtain ⟨h1, h2⟩ := smallI_of hj
        exact ⟨j, rfl, h1, h2, k B1 H1 _ s1 walk_rng⟩
    | [.non], k => exact k.elim
    | [.bl _], k => exact k.elim
    | [.str _], k => exact k.elim
    | [.lst _], k => exact k.elim
    | [.tup _], k => exact k.elim
    | [.rdl _], k => exact k.elim
    | [.rdt _], k => exact k.elim
    | [.ins _ _], k => exact k.elim
    | [.exo _], k => exact k.elim
    | [.exd _ _ _], k => exact k.elim
    | d :: e :: r, k => cases d <;> exact k.elim
  | exc e => rw [h] at k; exact k
  | no => rw [h] at k; exact k
end
/-! ### targets -/
abbrev Tgt := D → En → Option En
def TgOk (K : PySem.W.Frag) (g : TG) (tgt : Tgt) : Prop := ∀ (B : Hp) (σ : L2.St) (H : Hp) (ss : En) (fps : List (List Addr)) (d : D) (v : V) (s1 : En) (Q : L2.St → Hp → Prop), Pi K B σ H ss fps → Rep K B d v → tgt d ss = some s1 →
  (∀ σ1, (∀ B0 H0, SI K B0 H0 B σ H ss fps → ∃ fps1, SI K B0 H0 B σ1 H s1 fps1) → (∃ fps1, Pi K B σ1 H s1 fps1) → Q σ1 H) → g v σ H Q
def tgName (i : Nat) : Tgt := fun d ss => some (ss.set i (.v 0 d))
section
variable {K : PySem.W.Frag} {B0 H0 B B' H H' : Hp} {σ : L2.St} {ss : En} {fps : List (List Addr)}
theorem SI.set0 (h : SI K B0 H0 B σ H ss fps) {d : D} {v : V} (r : Rep K B d v) (i : Nat) : SI K B0 H0 B (σ.set i (some v)) H (ss.set i (.v 0 d)) (fps.set i []) :=
  h.store (.refl h.pi.bh) (show New K H B H 0 d v [] from ⟨⟨rfl, r⟩, List.nodup_nil, fun a z => nomatch z⟩) i
theorem Pi.set0 (h : Pi K B σ H ss fps) {d : D} {v : V} (r : Rep K B d v) (i : Nat) : Pi K B (σ.set i (some v)) H (ss.set i (.v 0 d)) (fps.set i []) := by
  refine ⟨h.bh, h.al.set (a := Sl.v 0 d) (b := some v) (c := []) ⟨v, rfl, rfl, r⟩ i, nodup_set h.nd List.nodup_nil i (fun _ _ => True.intro) (fun a ha => nomatch ha), fun a ha => ?_⟩
  rcases mem_set_fl ha with z | z
  · exact h.fr a z
  · cases z
theorem Pi.setUn (h : Pi K B σ H ss fps) (i : Nat) : Pi K B (σ.set i none) H (ss.set i .un) (fps.set i []) := by
  refine ⟨h.bh, h.al.set (a := Sl.un) (b := none) (c := []) rfl i, nodup_set h.nd List.nodup_nil i (fun _ _ => True.intro) (fun a ha => nomatch ha), fun a ha => ?_⟩
  rcases mem_set_fl ha with z | z
  · exact h.fr a z
  · cases z
end
theorem tg_name {K : PySem.W.Frag} {i : Nat} : TgOk K (gName i) (tgName i) := by
  intro B σ H ss fps d v s1 Q pi r e k
  cases e
  exact k _ (fun B0 H0 si => ⟨_, si.set0 r i⟩) ⟨_, pi.set0 r i⟩
/-! ### for -/
def loop (step : D → SM) : List D → SM
  | [], ss => .nx ss
  | d :: ds, ss => match step d ss with
    | .nx s' => loop step ds s'
    | .ct s' => loop step ds s'
    | .bk s' => .nx s'
    | o => o
def stepF (tgt : Tgt) (body : SM) : D → SM := fun d ss => match tgt d ss with
  | some s1 => body s1
  | none => .no
def sFor (fi : EI) (tgt : Tgt) (body : SM) : SM := fun ss => match fi ss with
  | .ok ds => loop (stepF tgt body) ds ss
  | .exc e => .exc e ss
  | .no => .no
section
variable {K : PySem.W.Frag} {W : WX} {B0 H0 B B1 H H1 : Hp} {E : Ends}
/-- the entry may be taken to have the greater base -/
theorem Stp.low (s : Stp B0 H0 B1 H1) : Stp B1 H0 B1 H1 := ⟨Le.refl _, s.hh, s.bh, fun _ z _ => z⟩
theorem Stp.up (s : Stp B0 H0 B1 H1) {B2 H2 : Hp} (t : Stp B1 H0 B2 H2) : Stp B0 H0 B2 H2 := ⟨s.bb.trans t.bb, t.hh, t.bh, fun a z1 z2 => t.dj a (s.dj a z1 z2) z2⟩
theorem SI.low {σ : L2.St} {ss : En} {fps : List (List Addr)} (h : SI K B0 H0 B σ H ss fps) : SI K B H0 B σ H ss fps := ⟨h.pi, h.st.low, h.fr⟩
theorem SI.up (s : Stp B0 H0 B1 H1) {σ : L2.St} {B2 H2 : Hp} {ss : En} {fps : List (List Addr)} (h : SI K B1 H0 B2 σ H2 ss fps) : SI K B0 H0 B2 σ H2 ss fps := ⟨h.pi, s.up h.st, h.fr⟩
end
section
variable {X : Cx} {W : WX} {tg it e : Expr} {pos p : Pos} {fi : EI} {g : TG} {tgt : Tgt} {F : SM} {body : List Stmt}
theorem s_for (hp : PassesOwn (model X.prog X.w) X.A X.env X.xe) (hc : X.calm = true) (hi : PI X tg it (tI X.K W fi)) (hg : PG X tg g) (ht : TgOk X.K g tgt) (hb : PSs X body (tS X.K W F)) (hs : ∀ x, foldedSetIterable it X.env x = pure x := by intro _; rfl) :
    PS X (.For tg it body [] pos) (tS X.K W (sFor fi tgt F)) := by
  refine ps_w (ps_for hp hc hi hg hb hs) fun E σ H hq => ?_
  obtain ⟨B0, H0, B, ss, fps, si, k⟩ := tS_get hq
  refine ⟨B, ss, fps, si.pi, ?_⟩
  unfold sFor at k
  cases h : fi ss with
  | ok ds =>
    rw [h] at k
    intro B1 H1 J s1 wk
    have si1 := si.step s1
    refine ⟨fun i m σ' H' => m = ds.length - i ∧ i ≤ ds.length ∧ ∃ B' ss' fps', SI X.K B1 H0 B' σ' H' ss' fps' ∧ Post X.K W B0 H0 E (loop (stepF tgt F) (ds.drop i) ss'), ⟨ds.length, by simp, Nat.zero_le _, B1, ss, fps, si1.low, by rw [List.drop_zero]; exact k⟩, ?_⟩
    rintro i m σ' H' ⟨rfl, hi, B', ss', fps', si', q⟩
    obtain ⟨w1, w2, w3⟩ := wk i B' H' si'.st.bb si'.st.bh
    by_cases hlt : i < ds.length
    · refine .inr ⟨w1 hlt, fun σ2 H2 => ∃ B2 ss2 fps2, SI X.K B1 H0 B2 σ2 H2 ss2 fps2 ∧ Post X.K W B0 H0 E (loop (stepF tgt F) (ds.drop (i + 1)) ss2), fun σ2 H2 ⟨B2, ss2, fps2, si2, q2⟩ => ⟨ds.length - (i + 1), by omega, rfl, hlt, B2, ss2, fps2, si2, q2⟩, fun x H2 hy => ?_⟩
      have hd : ds.drop i = ds[i] :: ds.drop (i + 1) := List.drop_eq_getElem_cons hlt
      obtain ⟨B2, st2, rx⟩ := w3 x H2 ds[i] (List.getElem?_eq_getElem hlt) hy
      rw [hd] at q
      unfold loop at q
      unfold stepF at q
      cases ht1 : tgt ds[i] ss' with
      | none => simp only [ht1] at q; exact q.elim
      | some s1' =>
        simp only [ht1] at q
        have si2 := si'.step st2
        refine ht B2 σ' H2 ss' fps' ds[i] x s1' _ si2.pi rx ht1 fun σ3 up _ => ?_
        obtain ⟨fps3, si3⟩ := up B1 H0 si2
        refine tS_mk si3 ?_
        cases hb1 : F s1' with
        | nx s4 => simp only [hb1] at q; exact fun B4 σ4 H4 fps4 si4 => ⟨B4, s4, fps4, si4, q⟩
        | ct s4 => simp only [hb1] at q; exact fun B4 σ4 H4 fps4 si4 => ⟨B4, s4, fps4, si4, q⟩
        | bk s4 => simp only [hb1] at q; exact fun B4 σ4 H4 fps4 si4 => q B4 σ4 H4 fps4 (si4.up si1.st)
        | rt n d => simp only [hb1] at q; exact fun B4 v4 H4 fp4 st4 nw => q B4 v4 H4 fp4 (si1.st.up st4) nw
        | exc e s4 => simp only [hb1] at q; exact fun B4 σ4 H4 fps4 cls dd si4 ex => q B4 σ4 H4 fps4 cls dd (si4.up si1.st) ex
        | ru d s4 => simp only [hb1] at q; exact fun B4 v4 σ4 H4 fps4 si4 r4 => q B4 v4 σ4 H4 fps4 (si4.up si1.st) r4
        | rn n d s4 => simp only [hb1] at q; exact fun B4 v4 σ4 H4 fps4 fp4 si4 r4 => q B4 v4 σ4 H4 fps4 fp4 (si4.up si1.st) r4
        | no => simp only [hb1] at q; exact q.elim
    · have e : i = ds.length := by omega
      refine .inl ⟨w2 (Nat.le_of_eq e.symm), ?_⟩
      rw [List.drop_eq_nil_of_le (Nat.le_of_eq e.symm)] at q
      exact q B' σ' H' fps' (si'.up si1.st)
  | exc e => rw [h] at k; exact fun B' cls dd H' st ex => k B' σ H' fps cls dd (si.step st) ex
  | no => rw [h] at k; exact k
/-! ### while -/
end
end Mv
namespace Mv
open PySem L2
/-! ### a change of an owned cell -/
section
variable {K : PySem.W.Frag} {B0 H0 B B' H H' : Hp} {σ : St} {ss : En} {fps : List (List Addr)}
theorem New.step {n : Nat} {d : D} {v : V} {fp : List Addr} (h : New K H0 B H n d v fp) (s : Stp B H B' H') : New K H0 B' H' n d v fp := by
  refine ⟨h.ow.le s.bb s.hh, h.nd, fun a ha => ⟨s.dj a (h.fr a ha).1 (h.ow.at a ha), (h.fr a ha).2⟩⟩
theorem apart_of : ∀ {l : List (List Addr)} {i j : Nat} {c d : List Addr}, l.flatten.Nodup → l[i]? = some c → l[j]? = some d → j ≠ i → ∀ a ∈ d, a ∉ c := by
  intro l
  induction l with
  | nil => intro i j c d _ q; simp at q
  | cons x xs ih =>
    intro i j c d nd q1 q2 ne a ha hc
    rw [List.flatten_cons] at nd
    obtain ⟨n1, n2, n3⟩ := List.nodup_append.mp nd
    cases i with
    | zero =>
      cases j with
      | zero => exact ne rfl
      | succ j =>
        simp at q1 q2
        subst q1
        exact n3 a hc a (mem_fl (List.mem_of_getElem? q2) ha) rfl
    | succ i =>
      cases j with
      | zero =>
        simp at q1 q2
        subst q2
        exact n3 a ha a (mem_fl (List.mem_of_getElem? q1) hc) rfl
      | succ j =>
        exact ih n2 (by simpa using q1) (by simpa using q2) (fun z => ne (by rw [z])) a ha hc
theorem all3_ix {α β γ : Type} {R S : α → β → γ → Prop} {as : List α} {bs : List β} {cs : List γ} (h : All3 R as bs cs) (k : ∀ (j : Nat) a b c, cs[j]? = some c → R a b c → S a b c) : All3 S as bs cs := by
  induction h with
  | nil => exact .nil
  | cons r t ih => exact .cons (k 0 _ _ _ (by simp) r) (ih fun j a b c hc => k (j + 1) a b c (by simpa using hc))
theorem all3_ixset {α β γ : Type} {R S : α → β → γ → Prop} {as : List α} {bs : List β} {cs : List γ} (h : All3 R as bs cs) {i : Nat} (k : ∀ (j : Nat) a b c, j ≠ i → cs[j]? = some c → R a b c → S a b c) {a : α} {b : β} {c : γ} (r : S a b c) : All3 S (as.set i a) (bs.set i b) (cs.set i c) := by
  induction h
    generalizing i with
  | nil => exact .nil
  | cons r0 t ih =>
    cases i with
    | zero => exact .cons r (all3_ix t fun j a b c hc => k (j + 1) a b c (by omega) (by simpa using hc))
    | succ i => exact .cons (k 0 _ _ _ (by omega) (by simp) r0) (ih fun j a b c hj hc => k (j + 1) a b c (by omega) (by simpa using hc))
/-- slot i owns the list at p; its items are changed, what is owned may come from a fresh value -/
theorem SI.cell (h : SI K B0 H0 B σ H ss fps) {i n : Nat} {ds ds' : List D} {p : Addr} {xs xs' : List V} {fpc fpc' : List (List Addr)} (hs : ss[i]? = some (.v (n + 1) (.lst ds))) (hσ : σ[i]? = some (some (.ref p))) (hf : fps[i]? = some (p :: fpc.flatten))
    (hp : H p = some (.lst xs)) (al : All3 (Ow K B (upd H p (.lst xs')) n) ds' xs' fpc') (nd : (p :: fpc'.flatten).Nodup)
    (fr : ∀ a ∈ fpc'.flatten, a ∈ fpc.flatten ∨ (a ∉ fps.flatten ∧ B a = none ∧ H0 a = none)) :
    SI K B0 H0 B σ (upd H p (.lst xs')) (ss.set i (.v (n + 1) (.lst ds'))) (fps.set i (p :: fpc'.flatten)) := by
  have hm : (p :: fpc.flatten) ∈ fps := List.mem_of_getElem? hf
  have pB : B p = none := h.pi.fr p (mem_fl hm List.mem_cons_self)
  have pH0 : H0 p = none := h.fr p (mem_fl hm List.mem_cons_self)
  have bh : Le B (upd H p (.lst xs')) := Le.mut h.pi.bh pB
  have q : All3 (slotOk K B (upd H p (.lst xs'))) (ss.set i (.v (n + 1) (.lst ds'))) (σ.set i (some (.ref p))) (fps.set i (p :: fpc'.flatten)) := by
    refine all3_ixset h.pi.al (fun j s o c hj hc r => r.mono (Le.refl B) fun a ha => ?_) ⟨.ref p, rfl, .inl ⟨ds', p, xs', fpc', rfl, rfl, upd_same, rfl, al⟩⟩
    have : a ≠ p := fun z => apart_of h.pi.nd hf hc hj a ha (by rw [z]; exact List.mem_cons_self)
    rw [upd_ne this]
  rw [set_same hσ] at q
  have frB : ∀ a ∈ (fps.set i (p :: fpc'.flatten)).flatten, B a = none ∧ H0 a = none := fun a ha => by
    rcases mem_set_fl ha with z | z
    · exact ⟨h.pi.fr a z, h.fr a z⟩
    · rcases List.mem_cons.mp z with e | e
      · rw [e]; exact ⟨pB, pH0⟩
      · rcases fr a e with w | w
        · exact ⟨h.pi.fr a (mem_fl hm (List.mem_cons_of_mem _ w)), h.fr a (mem_fl hm (List.mem_cons_of_mem _ w))⟩
        · exact w.2
  refine ⟨⟨bh, q, nodup_set h.pi.nd nd i (fun _ _ => True.intro) fun a ha c hc hac => ?_, fun a ha => (frB a ha).1⟩, ⟨h.st.bb, Le.mut h.st.hh pH0, bh, h.st.dj⟩, fun a ha => (frB a ha).2⟩
  rcases List.mem_cons.mp ha with e | e
  · exact ⟨_, hf, by rw [e]; exact List.mem_cons_self⟩
  · rcases fr a e with w | w
    · exact ⟨_, hf, List.mem_cons_of_mem _ w⟩
    · exact absurd (mem_fl hc hac) w.1
/-- what a slot owns -/
theorem SI.own (h : SI K B0 H0 B σ H ss fps) {i n : Nat} {ds0 : List D} (hs : ss[i]? = some (.v (n + 1) (.lst ds0))) : ∃ ds p xs fpc, D.lst ds0 = .lst ds ∧ σ[i]? = some (some (.ref p)) ∧ fps[i]? = some (p :: fpc.flatten) ∧ H p = some (.lst xs) ∧ All3 (Ow K B H n) ds xs fpc := by
  obtain ⟨o, fp, h1, h2, v, h3, ow⟩ := h.pi.al.get hs
  obtain ⟨ds, p, xs, fpc, e, h4, h5, h6, h7⟩ := ow.lstO
  subst h3 h4 h6
  exact ⟨ds, p, xs, fpc, e, h1, h2, h5, h7⟩
theorem flatten_app1 {α : Type} (l : List (List α)) (c : List α) : (l ++ [c]).flatten = l.flatten ++ c := by rw [List.flatten_append, List.flatten_cons, List.flatten_nil, List.append_nil]
/-- x.append(..) -/
theorem SI.app (h : SI K B0 H0 B σ H ss fps) {i n : Nat} {ds : List D} (hs : ss[i]? = some (.v (n + 1) (.lst ds))) {d : D} {v : V} {fp : List Addr} {Hx : Hp} (nw : New K Hx B H n d v fp) (hx : ∀ a ∈ fps.flatten, Hx a ≠ none) (h0 : Le H0 Hx) :
    ∃ p xs fps', σ[i]? = some (some (.ref p)) ∧ H p = some (.lst xs) ∧ ds.length = xs.length ∧ SI K B0 H0 B σ (upd H p (.lst (xs ++ [v]))) (ss.set i (.v (n + 1) (.lst (ds ++ [d])))) fps' := by
  obtain ⟨ds', p, xs, fpc, e, h1, h2, h3, al⟩ := h.own hs
  cases e
  have hm : (p :: fpc.flatten) ∈ fps := List.mem_of_getElem? h2
  have fresh : ∀ a ∈ fp, a ∉ fps.flatten := fun a ha z => hx a z (nw.fr a ha).2
  have nd0 := nd_mem h.pi.nd hm
  obtain ⟨n1, n2⟩ := List.nodup_cons.mp nd0
  have keep : ∀ a, a ≠ p → upd H p (.lst (xs ++ [v])) a = H a := fun a ha => upd_ne ha
  refine ⟨p, xs, _, h1, h3, al.len1, h.cell (fpc' := fpc ++ [fp]) hs h1 h2 h3 ?_ ?_ ?_⟩
  · refine All3.append (all3_ix al fun j a b c hc r => r.mono (Le.refl B) fun x hxx => keep x fun z => n1 (by rw [← z]; exact mem_fl (List.mem_of_getElem? hc) hxx)) (.cons ?_ .nil)
    exact nw.ow.mono (Le.refl B) fun x hxx => keep x fun z => fresh x hxx (mem_fl hm (by rw [z]; exact List.mem_cons_self))
  · rw [flatten_app1]
    refine List.nodup_cons.mpr ⟨fun z => ?_, List.nodup_append.mpr ⟨n2, nw.nd, fun a ha b hb e => ?_⟩⟩
    · rcases List.mem_append.mp z with z | z
      · exact n1 z
      · exact fresh p z (mem_fl hm List.mem_cons_self)
    · subst e
      exact fresh a hb (mem_fl hm (List.mem_cons_of_mem _ ha))
  · intro a ha
    rw [flatten_app1] at ha
    rcases List.mem_append.mp ha with z | z
    · exact .inl z
    · exact .inr ⟨fresh a z, (nw.fr a z).1, h0.back (nw.fr a z).2⟩
end
def sApp (i : Nat) (f : EB) : SM := fun ss => match ss[i]? with
  | some (.v (n + 1) (.lst ds)) => (match f ss with
    | .ok (m, d) => if m = n ∧ ds.length < 10000000 then .nx (ss.set i (.v (n + 1) (.lst (ds ++ [d])))) else .no
    | .exc e => .exc e ss
    | .no => .no)
  | _ => .no
theorem size_lt {n : Nat} (h : n < 10000000) : n < sizeLine := by rw [sizeLine_eq]; omega
section
variable {X : Cx} {W : WX} {e a b : Expr} {pos : Pos} {f f1 fi : EB}
theorem s_app (i : Nat) {x : Str} {p apos cpos : Pos} (he : PE X e (tM X.K W f)) (hN : X.N[i]? = some x := by rfl) (hv : Vis X.env.scope x := by first | exact Or.inl rfl | exact Or.inr (Or.inl rfl) | exact Or.inr (Or.inr rfl)) (hd : (x == ("__debug__" : Str)) = false := by decide)
    (hcd : (x == ("__classdict__" : Str)) = false := by decide)
    (hbase : attributeBase (.Name x p) "append" X.env (eval (.Name x p) X.env) = eval (.Name x p) X.env := by rfl) (hfew : ((backTo cpos (starEach [e] X.env)).all (fun x => !x.1) && (backToKw cpos (keywordEach [] X.env)).all (fun x => x.1.isSome) && decide (([e] : List Expr).length + ([] : List Keyword).length + (if ([] : List Keyword).isEmpty then 0 else 1) < 30)) = true := by rfl)
    (hline : (apos.endLine == cpos.line) = true := by rfl) (hs : starEach [e] X.env = (false, eval e X.env) :: starEach [] X.env := by rfl) (hplain : (backTo cpos (starEach [] X.env)).any (·.1) = false := by rfl)
    (hsw : swapsWith (.Call (.Attribute (.Name x p) "append" apos) [e] [] cpos) none pos.line X.env = pure false := by rfl) :
    PS X (.Expr (.Call (.Attribute (.Name x p) "append" apos) [e] [] cpos) pos) (tS X.K W (sApp i f)) := by
  refine ps_w (ps_expr (pe_bm PySem.F.plainAttrs_list PySem.F.slot_list_append PySem.F.type_list_append mt_append (pe_var hN hv hd hcd) (pa_cons he pa_nil hs) hbase hfew hline hs hplain) hsw) fun E σ H hq => ?_
  obtain ⟨B0, H0, B, ss, fps, si, k⟩ := tS_get hq
  unfold sApp at k
  split at k
  · rename_i n ds hi
    obtain ⟨ds', p, xs, fpc, e0, h1, h2, h3, al⟩ := si.own hi
    cases e0
    refine ⟨.ref p, h1, .inl ⟨rfl, _, SqL.of h3⟩, B, ss, fps, si.pi, ?_⟩
    cases hf : f ss with
    | ok r =>
      obtain ⟨m, d⟩ := r
      simp only [hf] at k
      intro B1 v H1 fp s1 nw
      by_cases hc : m = n ∧ ds.length < 10000000
      · rw [if_pos hc] at k
        obtain ⟨rfl, hl⟩ := hc
        obtain ⟨p2, xs2, fps', q1, q2, q3, q4⟩ := (si.step s1).app hi nw (fun a ha => by obtain ⟨ys, e⟩ := (si.pi.here a ha).some; rw [e]; exact fun z => nomatch z) si.st.hh
        rw [h1] at q1
        cases q1
        exact ⟨p, xs2, v, rfl, rfl, q2, by rw [← q3]; exact size_lt hl, k B1 σ _ fps' q4⟩
      · rw [if_neg hc] at k; exact k.elim
    | exc e => simp only [hf] at k; exact fun B' cls dd H' st ex => k B' σ H' fps cls dd (si.step st) ex
    | no => simp only [hf] at k; exact k.elim
  · exact k.elim
end
end Mv
namespace Mv
open PySem L2
/-! ### comprehensions -/
def wipeS (ss : En) : List Nat → En
  | [] => ss
  | v :: vs => (wipeS ss vs).set v .un
def wipeF (fps : List (List Addr)) : List Nat → List (List Addr)
  | [] => fps
  | v :: vs => (wipeF fps vs).set v []
theorem Pi.wipe {K : PySem.W.Frag} {B H : Hp} {σ : L2.St} {ss : En} {fps : List (List Addr)} (h : Pi K B σ H ss fps) : ∀ vs : List Nat, Pi K B (wipe σ vs) H (wipeS ss vs) (wipeF fps vs)
  | [] => h
  | v :: vs => (Pi.wipe h vs).setUn v
theorem wipe_at (σ : L2.St) : ∀ (vs : List Nat) (i : Nat), (wipe σ vs)[i]? = if i ∈ vs ∧ i < σ.length then some none else σ[i]?
  | [], i => by rw [if_neg (by simp)]; rfl
  | v :: vs, i => by
    show ((wipe σ vs).set v none)[i]? = _
    rw [List.getElem?_set, wipe_length, wipe_at σ vs i]
    by_cases hv : v = i
    · subst hv
      by_cases hl : v < σ.length
      · simp [hl]
      · simp [hl]
    · rw [if_neg hv]
      by_cases hm : i ∈ vs
      · simp [hm]
      · have : i ∉ v :: vs := by simp [hm, Ne.symm hv]
        simp [hm, this]
theorem wipe_set {σ : L2.St} {vs : List Nat} {j : Nat} (hj : j ∈ vs) (o : Option V) : wipe ((wipe σ vs).set j o) vs = wipe σ vs := by
  apply List.ext_getElem?
  intro i
  rw [wipe_at, wipe_at, List.length_set, wipe_length, List.getElem?_set, wipe_length, wipe_at]
  by_cases hc : i ∈ vs ∧ i < σ.length
  · rw [if_pos hc, if_pos hc]
  · rw [if_neg hc, if_neg hc]
    by_cases hji : j = i
    · subst hji
      have hl : ¬ j < σ.length := fun z => hc ⟨hj, z⟩
      rw [if_pos rfl, if_neg hl, List.getElem?_eq_none (by omega)]
    · rw [if_neg hji]
/-- a comprehension's target writes its own names alone -/
def TgW (K : PySem.W.Frag) (g : TG) (tgt : Tgt) (vs : List Nat) : Prop := ∀ (B : Hp) (σ : L2.St) (H : Hp) (ss : En) (fps : List (List Addr)) (d : D) (v : V) (s1 : En) (Q : L2.St → Hp → Prop), Pi K B (wipe σ vs) H ss fps → Rep K B d v → tgt d ss = some s1 →
  (∀ σ1 fps1, wipe σ1 vs = wipe σ vs → Pi K B σ1 H s1 fps1 → Q σ1 H) → g v (wipe σ vs) H Q
theorem tw_name {K : PySem.W.Frag} {i : Nat} {vs : List Nat} (hi : i ∈ vs) : TgW K (gName i) (tgName i) vs := by
  intro B σ H ss fps d v s1 Q pi r e k
  cases e
  exact k _ _ (wipe_set hi _) (pi.set0 r i)
def lcL (tgt : Tgt) (tc : ET) (fe : EB) (sw : En) : List D → Res (List D)
  | [] => .ok []
  | d :: ds => match tgt d sw with
    | some s1 => (match tc s1 with
      | .ok true => (match fe s1 with
        | .ok (0, e) => (match lcL tgt tc fe sw ds with
          | .ok r => .ok (e :: r)
          | _ => .no)
        | _ => .no)
      | .ok false => lcL tgt tc fe sw ds
      | _ => .no)
    | none => .no
def eLc (vs : List Nat) (fi : EI) (tgt : Tgt) (tc : ET) (fe : EB) : EB := fun ss => match fi ss with
  | .ok ds => if ds.length < 10000000 then (match lcL tgt tc fe (wipeS ss vs) ds with
    | .ok r => .ok (1, .lst r)
    | _ => .no) else .no
  | .exc e => .exc e
  | .no => .no
def tcYes : ET := fun _ => .ok true
abbrev W0 : WX := fun _ _ _ _ => False
theorem lc_of {K : PySem.W.Frag} {W : WX} {vs : List Nat} {fi : EI} {g : TG} {tgt : Tgt} {tc : ET} {fe : EB} (tw : TgW K g tgt vs) (σ : L2.St) (H : Hp) (Q : VK) (hq : tM K W (eLc vs fi tgt tc fe) σ H Q) :
    tLc (tI K W fi) g (tT K W0 tc) (tB K W0 fe) vs σ H Q := by
  obtain ⟨B, ss, fps, pi, k⟩ := hq
  refine ⟨B, ss, fps, pi, ?_⟩
  unfold eLc at k
  cases hfi : fi ss with
  | exc e => rw [hfi] at k; exact k
  | no => rw [hfi] at k; exact k
  | ok ds =>
    simp only [hfi] at k
    by_cases hz : ds.length < 10000000
    · rw [if_pos hz] at k
      intro B1 H1 J s1 wk Da hDa
      -- what is left to do from the items ds' with acc made
      have fin : ∀ (all : List D) (B' H' : Hp) (acc : List V), Stp B1 H1 B' H' → B' Da = none → H' Da = some (.lst acc) → Reps K B' all acc → lcL tgt tc fe (wipeS ss vs) ds = .ok all → Q (.ref Da) H' := by
        intro all B' H' acc st hB hH rs e
        simp only [e] at k
        refine k B' (.ref Da) H' [Da] (s1.trans st) ⟨.inl ⟨all, Da, acc, all.map fun _ => [], rfl, rfl, hH, by rw [flat_nils], all_of_reps rs⟩, List.nodup_cons.mpr ⟨(fun z => nomatch z), List.nodup_nil⟩, fun a ha => ?_⟩
        rw [List.mem_singleton] at ha
        subst ha
        exact ⟨hB, s1.hh.back hDa⟩
      have some_ok : ∃ all, lcL tgt tc fe (wipeS ss vs) ds = .ok all := by
        cases e : lcL tgt tc fe (wipeS ss vs) ds with
        | ok all => exact ⟨all, rfl⟩
        | exc x => simp only [e] at k
        | no => simp only [e] at k
      obtain ⟨all, hall⟩ := some_ok
      refine ⟨fun i m H' => m = ds.length - i ∧ i ≤ ds.length ∧ ∃ (B' : Hp) (done : List D) (acc : List V) (rest : List D), Stp B1 H1 B' H' ∧ B' Da = none ∧ H' Da = some (.lst acc) ∧ Reps K B' done acc ∧ done.length ≤ i ∧ lcL tgt tc fe (wipeS ss vs) (ds.drop i) = .ok rest ∧ all = done ++ rest,
        ⟨ds.length, by simp, Nat.zero_le _, B1, [], [], all, ⟨Le.refl _, Le.new hDa, s1.bh.trans (Le.new hDa), fun _ z _ => z⟩, s1.bh.back hDa, upd_same, reps_nil, Nat.le_refl _, by rw [List.drop_zero]; exact hall, rfl⟩, ?_⟩
      rintro i m H' ⟨rfl, hi, B', done, acc, rest, st, hB, hH, rs, hl, hr, hd⟩
      obtain ⟨w1, w2, w3⟩ := wk i B' H' st.bb st.bh
      by_cases hlt : i < ds.length
      · refine .inr ⟨w1 hlt, fun H2 => ∃ (B' : Hp) (done : List D) (acc : List V) (rest : List D), Stp B1 H1 B' H2 ∧ B' Da = none ∧ H2 Da = some (.lst acc) ∧ Reps K B' done acc ∧ done.length ≤ i + 1 ∧ lcL tgt tc fe (wipeS ss vs) (ds.drop (i + 1)) = .ok rest ∧ all = done ++ rest,
          fun H2 q => ⟨ds.length - (i + 1), by omega, rfl, hlt, q⟩, fun x H2 hy => ?_⟩
        obtain ⟨B2, st2, rx⟩ := w3 x H2 ds[i] (List.getElem?_eq_getElem hlt) hy
        have hdr : ds.drop i = ds[i] :: ds.drop (i + 1) := List.drop_eq_getElem_cons hlt
        rw [hdr] at hr
        unfold lcL at hr
        have keepB : ∀ {Bx Hx : Hp}, Stp B' H' Bx Hx → Bx Da = none ∧ Hx Da = some (.lst acc) := fun s => ⟨s.dj Da hB (.inl ⟨_, hH⟩), s.hh _ _ hH⟩
        cases ht1 : tgt ds[i] (wipeS ss vs) with
        | none => simp only [ht1] at hr; cases hr
        | some s1' =>
          simp only [ht1] at hr
          have pi2 : Pi K B2 (wipe σ vs) H2 (wipeS ss vs) (wipeF fps vs) := ((pi.step s1).wipe vs).step (st.trans st2)
          refine tw B2 σ H2 _ _ ds[i] x s1' _ pi2 rx ht1 fun σ1 fps1 hw pi3 => ⟨hw, B2, s1', fps1, pi3, ?_⟩
          cases htc : tc s1' with
          | exc e => simp only [htc] at hr; cases hr
          | no => simp only [htc] at hr; cases hr
          | ok b =>
            simp only [htc] at hr
            intro B3 H3 st3
            cases b with
            | false =>
              obtain ⟨q1, q2⟩ := keepB (st2.trans st3)
              rw [(if_neg Bool.false_ne_true)]
              exact ⟨B3, done, acc, rest, st.trans (st2.trans st3), q1, q2, Reps.mono (st2.trans st3).bb _ _ rs, by omega, hr, hd⟩
            | true =>
              rw [if_pos rfl]
              refine ⟨B3, s1', fps1, pi3.step st3, ?_⟩
              cases hfe : fe s1' with
              | exc e => simp only [hfe] at hr; cases hr
              | no => simp only [hfe] at hr; cases hr
              | ok r =>
                obtain ⟨n, e⟩ := r
                simp only [hfe] at hr
                cases n with
                | succ n => simp only [] at hr; cases hr
                | zero =>
                  simp only [] at hr
                  intro B4 y H4 st4 bw
                  have st24 := (st2.trans st3).trans st4
                  obtain ⟨q1, q2⟩ := keepB st24
                  cases hrr : lcL tgt tc fe (wipeS ss vs) (ds.drop (i + 1)) with
                  | exc e => simp only [hrr] at hr; cases hr
                  | no => simp only [hrr] at hr; cases hr
                  | ok rest' =>
                    simp only [hrr] at hr
                    cases hr
                    have hst := st.trans st24
                    refine ⟨acc, q2, by rw [← rs.length]; exact size_lt (by omega), B4, done ++ [e], acc ++ [y], rest', ⟨hst.bb, Le.mut hst.hh hDa, Le.mut hst.bh q1, hst.dj⟩, q1, upd_same, (Reps.mono st24.bb _ _ rs).append (reps_cons bw.rep reps_nil), by rw [List.length_append]; simp; omega, rfl, by rw [hd, List.append_assoc]; rfl⟩
      · have e : i = ds.length := by omega
        rw [List.drop_eq_nil_of_le (Nat.le_of_eq e.symm)] at hr
        cases hr
        refine .inl ⟨w2 (Nat.le_of_eq e.symm), fin done B' H' acc st hB hH rs ?_⟩
        rw [hall, hd, List.append_nil]
    · rw [if_neg hz] at k; exact k.elim
section
variable {X : Cx} {W : WX} {elt tg iter : Expr} {ifs : List Expr} {scope : Scope} {own : List (Str × Nat)} {pos spos py : Pos} {fi : EI} {g : TG} {tgt : Tgt} {tc : ET} {fe : EB}
theorem pts_w {X : Cx} {ifs : List Expr} {t u : TT} (h : PTs X ifs t) (k : ∀ σ H Q, u σ H Q → t σ H Q) : PTs X ifs u := ⟨fun pins s σ H Q I q => h.run pins s σ H Q I (k σ H Q q)⟩
theorem c_nil {W : WX} : PTs X [] (tT X.K W tcYes) := by
  refine pts_w pts_nil fun σ H Q hq => ?_
  obtain ⟨B, ss, fps, pi, k⟩ := hq
  exact k B H (.refl pi.bh)
theorem c_one {W : WX} {c : Expr} (h : PT X c (tT X.K W tc)) : PTs X [c] (tT X.K W tc) := pts_one h
theorem m_lc (hc : X.calm = true) (hN : X.N.Nodup) (hi : PI X tg iter (tI X.K W fi)) (ok : BlkOk X.N X.env.scope scope own) (tw : TgW X.K g tgt (own.map (·.2)))
    (hg : ∀ (s : Shared) (H : Hp) (C : Addr) (cl : List (Str × Addr)) (fp : List Addr), PG (X.blk s H scope (compEnvC scope cl C X.env) fp) tg g) (ht : ∀ (s : Shared) (H : Hp) (C : Addr) (cl : List (Str × Addr)) (fp : List Addr), PTs (X.blk s H scope (compEnvC scope cl C X.env) fp) ifs (tT X.K W0 tc))
    (he : ∀ (s : Shared) (H : Hp) (C : Addr) (cl : List (Str × Addr)) (fp : List Addr), PE (X.blk s H scope (compEnvC scope cl C X.env) fp) elt (tB X.K W0 fe)) (hs : ∀ x, foldedSetIterable iter X.env x = pure x := by intro _; rfl) :
    PE X (.ListComp elt [⟨tg, iter, ifs, 0⟩] scope pos) (tM X.K W (eLc (own.map (·.2)) fi tgt tc fe)) :=
  pe_w (pe_lc hc hN hi ok hg ht he hs) fun σ H Q hq => lc_of tw σ H Q hq
theorem s_setLc {i : Nat} {y : Str} (hc : X.calm = true) (hN : X.N.Nodup) (hy : X.N[i]? = some y) (hyl : X.env.scope.names.lookup y = some .local)
    (hsw : swapsWith (.ListComp elt [⟨tg, iter, ifs, 0⟩] scope pos) (some (.Name y py)) spos.line X.env = pure true) (hi : PI X tg iter (tI X.K W fi)) (ok : BlkOk X.N X.env.scope scope own) (tw : TgW X.K g tgt (own.map (·.2)))
    (hg : ∀ (s : Shared) (H : Hp) (C : Addr) (cl : List (Str × Addr)) (fp : List Addr), PG (X.blk s H scope (compEnvC scope cl C X.env) fp) tg g) (ht : ∀ (s : Shared) (H : Hp) (C : Addr) (cl : List (Str × Addr)) (fp : List Addr), PTs (X.blk s H scope (compEnvC scope cl C X.env) fp) ifs (tT X.K W0 tc))
    (he : ∀ (s : Shared) (H : Hp) (C : Addr) (cl : List (Str × Addr)) (fp : List Addr), PE (X.blk s H scope (compEnvC scope cl C X.env) fp) elt (tB X.K W0 fe)) (hs : ∀ x, foldedSetIterable iter X.env x = pure x := by intro _; rfl) :
    PS X (.Assign [.Name y py] (.ListComp elt [⟨tg, iter, ifs, 0⟩] scope pos) spos) (tS X.K W (sAsg i (eLc (own.map (·.2)) fi tgt tc fe))) := by
  refine ps_w (ps_setLc hc hN hy hyl hsw hi ok hg ht he hs) fun E σ H hq => ?_
  have q := asg_of hq
  exact lc_of tw σ H _ q
end
end Mv
namespace Mv
open PySem L2
/-! ### x += n -/
/-- list(x): a copy -/
def eList (f : EB) : EB := fun ss => match f ss with
  | .ok (n, .lst xs) => if n ≤ 1 then .ok (1, .lst xs) else .no
  | .ok (0, .tup xs) => .ok (1, .lst xs)
  | .ok (_, _) => .no
  | .exc e => .exc e
  | .no => .no
section
variable {X : Cx} {W : WX} {e a b : Expr} {es : List Expr} {x : Str} {pos p : Pos} {f f1 f2 fi : EB} {g1 : EA}
theorem tup_items {K : PySem.W.Frag} {B H : Hp} {ds : List D} {v : V} (bh : Le B H) (h : Bw K B H 0 (.tup ds) v) : ∃ p xs, v = .ref p ∧ TX B p xs ∧ Reps K B ds xs := by
  obtain ⟨fp, ow⟩ := h
  obtain ⟨_, r⟩ := ow
  rw [Rep] at r
  exact r
theorem m_list (hgl : Gl X "list") (hm : X.mg "list" = none) (ha : PE X e (tB X.K W f)) (hs : starEach [e] X.env = (false, eval e X.env) :: starEach [] X.env := by rfl) (hpl : (backTo pos (starEach [] X.env)).any (·.1) = false := by rfl) :
    PE X (.Call (.Name "list" p) [e] [] pos) (tM X.K W (eList f)) := by
  refine pe_w (pe_callTy call_list_of hgl hm (by decide +kernel) (pa_cons ha pa_nil hs) (by decide) (by decide) hs hpl) fun σ H Q hq => ?_
  obtain ⟨B, ss, fps, pi, k⟩ := hq
  refine ⟨B, ss, fps, pi, ?_⟩
  unfold eList at k
  cases h1 : f ss with
  | ok r =>
    obtain ⟨n, d⟩ := r
    simp only [h1] at k
    intro B1 v H1 s1 bw
    by_cases hl : ∃ xs, d = .lst xs
    · obtain ⟨xs, rfl⟩ := hl
      by_cases hn : n ≤ 1
      · have k' : ∀ B' v H' fp, Stp B H B' H' → New X.K H B' H' 1 (.lst xs) v fp → Q v H' := by simpa only [hn, if_true] using k
        obtain ⟨q, us, rfl, hq, rs⟩ := bw.items s1.bh hn
        refine ⟨q, us, rfl, .inl (SqL.of hq), fun l hl => ?_⟩
        obtain ⟨q1, q2⟩ := new_list s1 rs hl
        exact k' _ _ _ _ q1 q2
      · exfalso; simp [hn] at k
    · by_cases ht : ∃ xs, n = 0 ∧ d = .tup xs
      · obtain ⟨xs, rfl, rfl⟩ := ht
        have k' : ∀ B' v H' fp, Stp B H B' H' → New X.K H B' H' 1 (.lst xs) v fp → Q v H' := k
        obtain ⟨q, us, rfl, hq, rs⟩ := tup_items s1.bh bw
        refine ⟨q, us, rfl, .inr ((s1.bh.tx hq).sqT), fun l hl => ?_⟩
        obtain ⟨q1, q2⟩ := new_list s1 rs hl
        exact k' _ _ _ _ q1 q2
      · exfalso
        cases n <;> cases d <;> first | exact k | exact hl ⟨_, rfl⟩ | exact ht ⟨_, rfl, rfl⟩
  | exc e => simp only [h1] at k; exact k
  | no => simp only [h1] at k
/-! ### built-ins with flat answers -/
end
def gLen : List D → Option D
  | [.lst xs] => some (.int xs.length)
  | [.tup xs] => some (.int xs.length)
  | [.rdl xs] => some (.int xs.length)
  | [.str x] => if x.length ≤ sizeLine then some (.int x.length) else none
  | _ => none
def gAbs : List D → Option D
  | [.int i] => some (.int (if i < 0 then -i else i))
  | _ => none
def gToInt : List D → Option D
  | [.int i] => some (.int i)
  | _ => none
def gMin2 : List D → Option D
  | [.int i, .int j] => some (.int (if j < i then j else i))
  | _ => none
section
variable {X : Cx} {K : PySem.W.Frag}
theorem ok_len : ClOk X.K (fun xs H Q => ∃ x n, xs = [x] ∧ LenV X.K x H n ∧ Q (.int n) H) gLen := by
  intro H ds d vs Q rs e k
  match ds, rs, e with
  | [d0], rs, e =>
    rw [Reps] at rs
    obtain ⟨v, us, rfl, r, rs⟩ := rs
    rw [Reps] at rs
    subst rs
    cases d0 <;> first | (cases e; done) | skip
    case str x =>
      unfold gLen at e
      by_cases hz : x.length ≤ sizeLine
      · simp only [hz, if_true] at e
        cases e
        rw [Rep] at r
        subst r
        exact ⟨_, _, rfl, ⟨hz, rfl⟩, k _ fun _ => rep_int⟩
      · simp [hz] at e
    case lst xs =>
      cases e
      rw [Rep] at r
      obtain ⟨p, us, rfl, hp, rs⟩ := r
      exact ⟨_, xs.length, rfl, .inl ⟨us, SqL.of hp, rs.length⟩, k _ fun _ => rep_int⟩
    case tup xs =>
      cases e
      rw [Rep] at r
      obtain ⟨p, us, rfl, hp, rs⟩ := r
      exact ⟨_, xs.length, rfl, .inr ⟨us, hp.sqT, rs.length⟩, k _ fun _ => rep_int⟩
    case rdl xs =>
      cases e
      rw [Rep] at r
      obtain ⟨p, us, rfl, hp, rs⟩ := r
      exact ⟨_, xs.length, rfl, .inl ⟨us, hp, rs.length⟩, k _ fun _ => rep_int⟩
  | [], rs, e => cases e
  | d0 :: d1 :: ds, rs, e => cases d0 <;> cases e
theorem ok_abs : ClOk X.K (fun xs H Q => ∃ i, xs = [.int i] ∧ Q (.int (if i < 0 then -i else i)) H) gAbs := by
  intro H ds d vs Q rs e k
  unfold gAbs at e
  split at e
  · rename_i i
    rw [reps1 rs]
    cases e
    exact ⟨i, rfl, k _ fun _ => rep_int⟩
  · cases e
theorem ok_toInt : ClOk X.K (fun xs H Q => (∃ i, xs = [.int i] ∧ Q (.int i) H) ∨ ∃ k, xs = [.bl k] ∧ Q (.int (if k then 1 else 0)) H) gToInt := by
  intro H ds d vs Q rs e k
  unfold gToInt at e
  split at e
  · rename_i i
    rw [reps1 rs]
    cases e
    exact .inl ⟨i, rfl, k _ fun _ => rep_int⟩
  · cases e
theorem ok_min2 : ClOk X.K (fun xs H Q => ∃ i j, xs = [.int i, .int j] ∧ Q (.int (if j < i then j else i)) H) gMin2 := by
  intro H ds d vs Q rs e k
  unfold gMin2 at e
  split at e
  · rename_i i j
    rw [reps2 rs]
    cases e
    exact ⟨i, j, rfl, k _ fun _ => rep_int⟩
  · cases e
end
section
variable {X : Cx} {W : WX} {e a b : Expr} {es : List Expr} {pos p : Pos} {g1 : EA}
theorem b_len (hgl : Gl X "len") (hm : X.mg "len" = none) (ha : PA X [e] (tAh X.K W g1)) (he : starEach [e] X.env = (false, eval e X.env) :: starEach [] X.env := by rfl) (hpl : (backTo pos (starEach [] X.env)).any (·.1) = false := by rfl) :
    PE X (.Call (.Name "len" p) [e] [] pos) (tB X.K W (eCall gLen g1)) := b_callB call_len ok_len hgl hm PySem.boot_len ha (by decide) (by decide) he hpl
theorem b_abs (hgl : Gl X "abs") (hm : X.mg "abs" = none) (ha : PA X [e] (tAh X.K W g1)) (he : starEach [e] X.env = (false, eval e X.env) :: starEach [] X.env := by rfl) (hpl : (backTo pos (starEach [] X.env)).any (·.1) = false := by rfl) :
    PE X (.Call (.Name "abs" p) [e] [] pos) (tB X.K W (eCall gAbs g1)) := b_callB call_abs ok_abs hgl hm (by decide +kernel) ha (by decide) (by decide) he hpl
theorem b_toInt (hgl : Gl X "int") (hm : X.mg "int" = none) (ha : PA X [e] (tAh X.K W g1)) (he : starEach [e] X.env = (false, eval e X.env) :: starEach [] X.env := by rfl) (hpl : (backTo pos (starEach [] X.env)).any (·.1) = false := by rfl) :
    PE X (.Call (.Name "int" p) [e] [] pos) (tB X.K W (eCall gToInt g1)) := b_callTy call_int1 ok_toInt hgl hm (by decide +kernel) ha (by decide) (by decide) he hpl
theorem b_min2 (hc : X.calm = true) (hgl : Gl X "min") (hm : X.mg "min" = none) (ha : PA X [a, b] (tAh X.K W g1)) (he : starEach [a, b] X.env = (false, eval a X.env) :: starEach [b] X.env := by rfl) (hpl : (backTo pos (starEach [b] X.env)).any (·.1) = false := by rfl) :
    PE X (.Call (.Name "min" p) [a, b] [] pos) (tB X.K W (eCall gMin2 g1)) := b_callB (call_min2 hc) ok_min2 hgl hm (by decide +kernel) ha (by decide) (by decide) he hpl
end
/-! ### defs -/
abbrev FM := List D → Res (Nat × D)
def spM (K : PySem.W.Frag) (m : FM) : Sp := fun vs H Q E => ∃ B ds, Le B H ∧ Reps K B ds vs ∧ match m ds with
  | .ok (n, d) => ∀ B' v H' fp, Stp B H B' H' → New K H B' H' n d v fp → Q v H'
  | .exc e => ∀ B' cls dd H', Stp B H B' H' → ExR K B' H' e cls dd → E cls dd H'
  | .no => False
/-- a def's mirror, from its body's -/
def fnM (np nn : Nat) (F : SM) : FM := fun ds => if ds.length = np then (match F (ds.map (Sl.v 0) ++ List.replicate (nn - np) .un) with
  | .nx _ => .ok (0, .non)
  | .rt n d => .ok (n, d)
  | .ru d _ => .ok (0, d)
  | .rn n d _ => .ok (n, d)
  | .exc e _ => .exc e
  | _ => .no) else .no
section
variable {P : Program} {w : World} {K : PySem.W.Frag} {base : Heap} {mg : Str → Option Value}
/-- Fun.ok for a def that may raise; what it raises has no context -/
theorem okN {x qual : Str} {st : Stmt} {f : Addr} {fd : FuncData} {N ps : List Str} {k : Nat} {sp : Sp} (F : Fun K x qual st f fd) (S : FnScope N ps (defScope st)) (len : ∀ vs H Q E, sp vs H Q E → vs.length = ps.length)
    (hbody : ∀ (cdv : Value) (A : Around) (outer : List Env) (s : Shared) (H : Hp) (vs : List V) (Q : VK) (E : XK), Room k (A.deeper (PyProof.Rows.envOfC qual (defScope st) s.heap.objs.size f cdv)) → sp vs H Q E →
      ∃ t, PSs (cxOf (L2N.CX P w) P w K mg base N qual (defScope st) f cdv A outer s H E) (defBody st) t ∧ t { nx := fun _ H' => Q .non H', rt := Q } (L2.start N vs) H) : FnOk P w K mg base (L2N.CX P w) (k + 1) f fd ps sp := by
  rcases F.ex with ⟨oc, od, kV, doc, pm, an, cdv, ct, osl, rfl, lk, hcd⟩
  exact (fn_of lk hcd S len fun A outer s H vs Q E hr hsp => hbody cdv A outer s H vs Q E hr hsp)
theorem takesN0 {X : Cx} : L2N.Takes X (fun _ _ _ _ => False) := fun _ _ x => by
  rcases x with ⟨_, _, _, _, _, _, _, _, _, _, _, _, _, _, _, _, z⟩
  exact z.elim
theorem fn_okM {x qual : Str} {st : Stmt} {f : Addr} {fd : FuncData} {N ps : List Str} {k : Nat} {F : SM} (np nn : Nat) (hnp : ps.length = np) (hnn : N.length = nn) (Fn : Fun K x qual st f fd) (S : FnScope N ps (defScope st))
    (hbody : ∀ (cdv : Value) (A : Around) (outer : List Env) (s : Shared) (H : Hp) (E : XK), Room k (A.deeper (PyProof.Rows.envOfC qual (defScope st) s.heap.objs.size f cdv)) →
      PSs (cxOf (L2N.CX P w) P w K mg base N qual (defScope st) f cdv A outer s H E) (defBody st) (tS K (fun cls d _ H => E cls d H) F)) :
    FnOk P w K mg base (L2N.CX P w) (k + 1) f fd ps (spM K (fnM np nn F)) := by
  subst hnp hnn
  refine okN Fn S (fun vs H Q E h => ?_) (fun cdv A outer s H vs Q E hr h => ⟨_, hbody cdv A outer s H E hr, ?_⟩)
  · obtain ⟨B, ds, _, rs, k⟩ := h
    unfold fnM at k
    by_cases hl : ds.length = ps.length
    · rw [← rs.length, hl]
    · rw [if_neg hl] at k; exact k.elim
  · obtain ⟨B, ds, le, rs, k⟩ := h
    unfold fnM at k
    by_cases hl : ds.length = ps.length
    · rw [if_pos hl] at k
      have hv : vs.length = ps.length := by rw [← rs.length, hl]
      have si := SI.start le rs (N.length - ps.length)
      unfold L2.start
      rw [hv]
      refine tS_mk si ?_
      cases hF : F (ds.map (Sl.v 0) ++ List.replicate (N.length - ps.length) .un) with
      | nx s' => simp only [hF] at k; exact fun B' σ' H' fps' si' => k B' .non H' [] si'.st ⟨⟨rfl, rep_non⟩, List.nodup_nil, fun a z => nomatch z⟩
      | rt n d => simp only [hF] at k; exact k
      | bk s' => simp only [hF] at k
      | ct s' => simp only [hF] at k
      | exc e s' => simp only [hF] at k; exact fun B' σ' H' fps' cls dd si' ex => k B' cls dd H' si'.st ex
      | ru d s' => simp only [hF] at k; exact fun B' v σ' H' fps' si' r => k B' v H' [] si'.st ⟨⟨rfl, r⟩, List.nodup_nil, fun a z => nomatch z⟩
      | rn n d s' => simp only [hF] at k; exact fun B' v σ' H' fps' fp si' r => k B' v H' fp si'.st ⟨r.ow, r.nd, fun a ha => (r.fr a ha).2⟩
      | no => simp only [hF] at k
    · rw [if_neg hl] at k; exact k.elim
end
def eFn (m : FM) (ga : EA) : EB := fun ss => match ga ss with
  | .ok ds => m ds
  | .exc e => .exc e
  | .no => .no
def flatX (e : Exo) : Bool := match e.fs with
  | none => true
  | some fs => fs.all fun p => flat p.2
theorem repF_flat {K : PySem.W.Frag} {B B' : Hp} : ∀ {fs : List (Str × D)} {gs : List (Str × V)}, (fs.all fun p => flat p.2) = true → RepF K B fs gs → RepF K B' fs gs
  | [], gs, _, h => by rw [RepF] at *; exact h
  | (n, d) :: fs, gs, hf, h => by
    rw [List.all_cons,
      Bool.and_eq_true] at hf
    rw [RepF] at *
    obtain ⟨v, vs, e, h1, h2⟩ := h
    exact ⟨v, vs, e, h1.flat hf.1, repF_flat hf.2 h2⟩
theorem exR_flat {K : PySem.W.Frag} {B B' H : Hp} {e : Exo} {cls : Value} {dd : Option Addr} (hf : flatX e = true) (h : ExR K B H e cls dd) : ExR K B' H e cls dd := by
  unfold ExR at *
  unfold flatX at hf
  obtain ⟨h1, h2⟩ := h
  refine ⟨h1, ?_⟩
  cases hfs : e.fs with
  | none => rw [hfs] at h2; exact h2
  | some fs =>
    rw [hfs] at h2 hf
    obtain ⟨d, gs, q1, q2, q3⟩ := h2
    exact ⟨d, gs, q1, q2, repF_flat hf q3⟩
def eFnF (m : FM) (ga : EA) : EB := fun ss => match ga ss with
  | .ok ds => (match m ds with
    | .ok (_, d) => if flat d then .ok (0, d) else .no
    | .exc e => if flatX e then .exc e else .no
    | .no => .no)
  | .exc e => .exc e
  | .no => .no
section
variable {X : Cx} {W : WX} {e a b : Expr} {es : List Expr} {pos p : Pos} {g1 : EA} {m : FM} {k : Nat} {f : Addr} {fd : FuncData} {ps : List Str} {x : Str}
/-- f(..): what comes back is new -/
theorem m_call (F : FnOk X.prog X.w X.K X.mg X.base (L2N.CX X.prog X.w) k f fd ps (spM X.K m)) (tk : L2N.Takes X W) (hr : Room k X.A) (hg : Gl X x) (hm : X.mg x = some (.ref f)) (hk : PySem.W.keepIn X.K (.ref f) = true) (hb : Binds X.K fd ps [])
    (ha : PA X (e :: es) (tA X.K W g1)) (hdb : (x == ("__debug__" : Str)) = false := by decide) (he : starEach (e :: es) X.env = (false, eval e X.env) :: starEach es X.env := by rfl) (hpl : (backTo pos (starEach es X.env)).any (·.1) = false := by rfl) :
    PE X (.Call (.Name x p) (e :: es) [] pos) (tM X.K W (eFn m g1)) := by
  refine pe_w (pe_callS F hr hg hm hk hb (fun σ => L2N.passAt tk σ) ha hdb he hpl) fun σ H Q hq => ?_
  obtain ⟨B, ss, fps, pi, k⟩ := hq
  refine ⟨B, ss, fps, pi, ?_⟩
  unfold eFn at k
  cases h1 : g1 ss with
  | ok ds =>
    simp only [h1] at k
    intro B1 vs H1 s1 rs
    refine ⟨B1, ds, s1.bh, rs, ?_⟩
    cases h2 : m ds with
    | ok r =>
      obtain ⟨n, d⟩ := r
      simp only [h2] at k
      exact fun B' v H' fp st nw => k B' v H' fp (s1.trans st) ⟨nw.ow, nw.nd, fun a ha => ⟨(nw.fr a ha).1, s1.hh.back (nw.fr a ha).2⟩⟩
    | exc e => simp only [h2] at k; exact fun B' cls dd H' st ex => k B' cls dd H' (s1.trans st) ex
    | no => simp only [h2] at k
  | exc e => simp only [h1] at k; exact k
  | no => simp only [h1] at k
/-- f(..): a flat answer; the arguments borrowed -/
theorem b_callF (F : FnOk X.prog X.w X.K X.mg X.base (L2N.CX X.prog X.w) k f fd ps (spM X.K m)) (tk : L2N.Takes X W) (hr : Room k X.A) (hg : Gl X x) (hm : X.mg x = some (.ref f)) (hk : PySem.W.keepIn X.K (.ref f) = true) (hb : Binds X.K fd ps [])
    (ha : PA X (e :: es) (tAh X.K W g1)) (hdb : (x == ("__debug__" : Str)) = false := by decide) (he : starEach (e :: es) X.env = (false, eval e X.env) :: starEach es X.env := by rfl) (hpl : (backTo pos (starEach es X.env)).any (·.1) = false := by rfl) :
    PE X (.Call (.Name x p) (e :: es) [] pos) (tB X.K W (eFnF m g1)) := by
  refine pe_w (pe_callS F hr hg hm hk hb (fun σ => L2N.passAt tk σ) ha hdb he hpl) fun σ H Q hq => ?_
  obtain ⟨B, ss, fps, pi, k⟩ := hq
  refine ⟨B, ss, fps, pi, ?_⟩
  unfold eFnF at k
  cases h1 : g1 ss with
  | ok ds =>
    simp only [h1] at k
    intro B1 vs H1 s1 rs
    refine ⟨H1, ds, Le.refl _, rs, ?_⟩
    cases h2 : m ds with
    | ok r =>
      obtain ⟨n, d⟩ := r
      simp only [h2] at k
      by_cases hf : flat d = true
      · rw [if_pos hf] at k
        intro B' v H' fp st nw
        have s2 : Stp B1 H1 B1 H' := ⟨Le.refl _, st.hh, s1.bh.trans st.hh, fun _ z _ => z⟩
        exact k B1 v H' (s1.trans s2) (bw0 (nw.ow.bw.flat hf))
      · rw [if_neg hf] at k; exact k.elim
    | exc e =>
      simp only [h2] at k
      by_cases hf : flatX e = true
      · rw [if_pos hf] at k
        intro B' cls dd H' st ex
        have s2 : Stp B1 H1 B1 H' := ⟨Le.refl _, st.hh, s1.bh.trans st.hh, fun _ z _ => z⟩
        exact k B1 cls dd H' (s1.trans s2) (exR_flat hf ex)
      · rw [if_neg hf] at k; exact k.elim
    | no => simp only [h2] at k
  | exc e => simp only [h1] at k; exact k
  | no => simp only [h1] at k
end
end Mv
namespace Mv
open PySem L2
section
variable {P : Program} {w : World} {K : PySem.W.Frag} {mg : Str → Option Value} {base : Heap} {N : List Str} {qual : Str} {scope : Scope} {f : Addr} {cdv : Value} {A : Around} {outer : List Env} {s : Shared} {H : Hp} {E : XK}
abbrev cxN (P : Program) (w : World) (K : PySem.W.Frag) (mg : Str → Option Value) (base : Heap) (N : List Str) (qual : Str) (scope : Scope) (f : Addr) (cdv : Value) (A : Around) (outer : List Env) (s : Shared) (H : Hp) (E : XK) : Cx := cxOf (L2N.CX P w) P w K mg base N qual scope f cdv A outer s H E
theorem passes_cx : PassesOwn (model (cxN P w K mg base N qual scope f cdv A outer s H E).prog (cxN P w K mg base N qual scope f cdv A outer s H E).w) (cxN P w K mg base N qual scope f cdv A outer s H E).A (cxN P w K mg base N qual scope f cdv A outer s H E).env (cxN P w K mg base N qual scope f cdv A outer s H E).xe := passes_of rfl
theorem takes_cx : L2N.Takes (cxN P w K mg base N qual scope f cdv A outer s H E) (fun cls d _ H => E cls d H) := L2N.takes_of rfl rfl rfl rfl
theorem units_cx {k : Nat} (hr : Room k (A.deeper (PyProof.Rows.envOfC qual scope s.heap.objs.size f cdv))) : (cxN P w K mg base N qual scope f cdv A outer s H E).A.units + 64 < cLine := hr.units
end
/-! ### isinstance of a built-in type -/
def kindOf : D → Option String
  | .non => some "NoneType"
  | .bl _ => some "bool"
  | .int _ => some "int"
  | .str _ => some "str"
  | .lst _ => some "list"
  | .tup _ => some "tuple"
  | _ => none
def isKind (k T : String) : Bool := k == T || (k == "bool" && T == "int")
def tyNames : List String := ["int", "bool", "list", "tuple", "str"]
def gIsi (T : String) (d : D) : Option D := match kindOf d with
  | some k => if T ∈ tyNames then some (.bl (isKind k T)) else none
  | none => none
theorem kit_kind {K : PySem.W.Frag} {k T : String} (hk : k ∈ ["NoneType", "bool", "int", "str", "list", "tuple"]) (hT : T ∈ tyNames) : PySem.W.kitOne K (.type k) (.type T) = some (isKind k T) := by
  unfold tyNames at hT
  simp only [List.mem_cons, List.not_mem_nil, or_false] at hk hT
  rcases hk with rfl | rfl | rfl | rfl | rfl | rfl <;> rcases hT with rfl | rfl | rfl | rfl | rfl <;> exact kit_ty (by decide +kernel)
theorem kind_ty {K : PySem.W.Frag} {H : Hp} {d : D} {v : V} {k : String} (r : Rep K H d v) (h : kindOf d = some k) : k ∈ ["NoneType", "bool", "int", "str", "list", "tuple"] ∧ TyX K H v (.type k) := by
  cases d <;> first | (cases h; done) | skip
  all_goals
    cases h
    rw [Rep] at r
    refine ⟨by decide, ?_⟩
    first
      | (subst r; exact .base .non)
      | (subst r; exact .base (.bl _))
      | (subst r; exact .base (.int _))
      | (subst r; exact .base (.str _))
      | (obtain ⟨a, xs, rfl, ha, _⟩ := r; exact .base (.lst ha))
      | (obtain ⟨a, xs, rfl, ⟨o, ha, _⟩, _⟩ := r; exact .fTuple ha)
def gNeg : D → Option D
  | .int i => some (.int (-i))
  | _ => none
section
variable {X : Cx} {W : WX} {e a b c : Expr} {es : List Expr} {pos p q : Pos} {f f1 f2 f3 : EB} {g1 : EA}
theorem b_isi (T : String) {x : Str} (hg : Gl X "isinstance") (hm : X.mg "isinstance" = none) (hg2 : Gl X x) (hm2 : X.mg x = none) (hv : bootBuiltins x = some (.type T)) (ha : PE X e (tB X.K W f)) (hn : x ≠ "__name__" := by decide) (hdb : (x == ("__debug__" : Str)) = false := by decide)
    (he : starEach [e, .Name x q] X.env = (false, eval e X.env) :: starEach [.Name x q] X.env := by rfl) (he2 : starEach [.Name x q] X.env = (false, eval (.Name x q) X.env) :: starEach [] X.env := by rfl) (hpl : (backTo pos (starEach [.Name x q] X.env)).any (·.1) = false := by rfl) :
    PE X (.Call (.Name "isinstance" p) [e, .Name x q] [] pos) (tB X.K W (eUn (gIsi T) f)) := by
  have pT : PE X (.Name x q) (tC (.ty T)) := pe_bltn (v := .ty T) hg2 hm2 hv rfl hn hdb
  refine pe_w (pe_callB call_isi hg hm (by decide +kernel) (pa_cons ha (pa_cons pT pa_nil he2) he) (by decide) (by decide) he hpl) fun σ H Q hq => ?_
  obtain ⟨B, ss, fps, pi, k⟩ := hq
  refine ⟨B, ss, fps, pi, ?_⟩
  unfold eUn at k
  cases h : f ss with
  | ok r =>
    obtain ⟨n, d⟩ := r
    simp only [h] at k
    intro B1 v H1 s1 bw
    cases hh : gIsi T d with
    | none => simp only [hh] at k
    | some d2 =>
      simp only [hh] at k
      unfold gIsi at hh
      cases hk : kindOf d with
      | none => simp only [hk] at hh; cases hh
      | some kd =>
        simp only [hk] at hh
        by_cases hT : T ∈ tyNames
        · rw [if_pos hT] at hh
          cases hh
          obtain ⟨h1, h2⟩ := kind_ty (bw.here s1.bh) hk
          exact ⟨v, .ty T, .type kd, .type T, _, rfl, .ty T, h2, kit_kind h1 hT, k B1 _ H1 s1 (bw0 rep_bl)⟩
        · rw [if_neg hT] at hh; cases hh
  | exc e => simp only [h] at k; exact k
  | no => simp only [h] at k
theorem b_neg (ha : PE X a (tB X.K W f)) : PE X (.UnaryOp .USub a pos) (tB X.K W (eUn gNeg f)) := by
  refine b_un un_neg (fun H da d x Q r e k => ?_) ha
  cases da <;> first | (cases e; done) | skip
  rename_i i
  rw [Rep] at r
  cases e
  exact ⟨i, r, k _ fun _ => rep_int⟩
end
/-! ### chains a < b < c -/
end Mv
namespace Mv
open PySem L2
open Classical
/-! ### raise X() -/
/-! ### slots -/
section
variable {K : PySem.W.Frag} {B0 H0 B B' H H' : Hp} {σ : St} {ss : En} {fps : List (List Addr)}
theorem SI.put (h : SI K B0 H0 B σ H ss fps) (i : Nat) {s : Sl} {o : Option V} (r : slotOk K B H s o []) : SI K B0 H0 B (σ.set i o) H (ss.set i s) (fps.set i []) := by
  refine ⟨⟨h.pi.bh, h.pi.al.set r i, nodup_set h.pi.nd List.nodup_nil i (fun _ _ => True.intro) fun a ha => (nomatch ha), fun a ha => ?_⟩, h.st, fun a ha => ?_⟩
  · rcases mem_set_fl ha with z | z
    · exact h.pi.fr a z
    · cases z
  · rcases mem_set_fl ha with z | z
    · exact h.fr a z
    · cases z
end
/-! ### try: .. except X as n: -/
/-! ### defs called in an except suite -/
/-! ### isinstance(e, ..) of the exception at hand -/
end Mv
namespace Mv
open PySem L2
/-! ### the law's end -/
/-- what a law says: at a script it answers True -/
def spLaw (K : PySem.W.Frag) : Sp := fun vs H Q _ => ∃ (a : Addr) (ns : List Int), vs = [.ref a] ∧ SqL K H a (ns.map V.int) ∧ ns.length ≤ 63 ∧ (∀ z ∈ ns, Builtin.Int.intBits z ≤ 1048576) ∧ ∀ H', Q (.bl true) H'
theorem rp_int_list {K : PySem.W.Frag} {B : Hp} : ∀ ns : List Int, Reps K B (ns.map D.int) (ns.map V.int)
  | [] => reps_nil
  | n :: ns => reps_cons (by rw [Rep]) (rp_int_list ns)
theorem law_ok {P : Program} {w : World} {K : PySem.W.Frag} {mg : Str → Option Value} {base : Heap} {k : Nat} {f : Addr} {fd : FuncData} {x : Str} {m : FM} (F : FnOk P w K mg base (L2N.CX P w) k f fd [x] (spM K m))
    (h : ∀ ns : List Int, ns.length ≤ 63 → (∀ z ∈ ns, Builtin.Int.intBits z ≤ 1048576) → m [.rdl (ns.map D.int)] = .ok (0, .bl true)) : FnOk P w K mg base (L2N.CX P w) k f fd [x] (spLaw K) := by
  have imp : ∀ vs H Q E, spLaw K vs H Q E → spM K m vs H Q E := fun vs H Q E q => by
    obtain ⟨a, ns, rfl, hs, hl, hb, q⟩ := q
    refine ⟨H, [.rdl (ns.map D.int)], Le.refl _, reps_cons (by rw [Rep]; exact ⟨a, _, rfl, hs, rp_int_list ns⟩) reps_nil, ?_⟩
    rw [h ns hl hb]
    intro B' v H' fp st nw
    have hv : Rep K B' (.bl true) v := nw.ow.2
    rw [Rep] at hv
    rw [hv]
    exact q H'
  exact ⟨fun vs H Q E q => F.len vs H Q E (imp _ _ _ _ q), fun A outer s H args us vs Q E hr e0 hb hv q => F.run A outer s H args us vs Q E hr e0 hb hv (imp _ _ _ _ q)⟩
/-- the law's def stands in the written part: what must be shown of it -/
abbrev LawDef (P : Program) (K : Params → PySem.W.Frag) (d : DefRec) (x : Str) (k : Nat) : Prop := ∀ (w : World) (mg : Str → Option Value) (fa : Addr) (h : Heap), (K w.params).In h → h.Ns mainGlobals mg → mg d.name = some (.ref fa) → ∃ fd : FuncData, (∀ (s : Shared) (u : Value), BindsTo s fd ⟨[u], []⟩ [(x, u)]) ∧ ∀ base : Heap, (K w.params).In base → base.Ns mainGlobals mg → FnOk P w (K w.params) mg base (L2N.CX P w) k fa fd [x] (spLaw (K w.params))
theorem law_walk {l : PySem.W.OpenLaw} {k : Nat} {q : Program} {loose : List Str} {XP : (Str → Option Value) → Heap → Prop} {YP : World → Heap → Prop} {d : DefRec} {K : Params → PySem.W.Frag} {x : Str}
    (hn : l.most = some 63) (hdf : d.params.defaults = []) (hr : Room k callerA) (hY : ∀ (w : World) (h : Heap), YP w h → (K w.params).In h)
    (F : LawDef l.prog K d x k) : PySem.W.WalkO q loose XP YP l.row.toRowW d [] (fun f vs => PySem.call f vs) :=
  L2.walk_ofB (n := 63) (CX := fun w => L2N.CX l.prog w) (sp := fun w => spLaw (K w.params)) hn (by decide) hdf hr hY F (fun _ _ a ns hl hb _ hS => ⟨a, ns, rfl, hS, hl, hb, fun _ => rfl⟩)
    fun _ _ _ _ _ z => by obtain ⟨_, _, _, _, _, _, _, _, _, _, _, _, z⟩ := z; exact z
/-! ### classes of exceptions -/
end Mv
/-! What mirrors compute: lemmas in plain Lean. -/
namespace Mv
open PySem L2
theorem gEq_int (a b : Int) : gEq (.int a) (.int b) = some (.bl (decide (a = b))) := by
  rw [gEq_pl rfl rfl rfl]
  congr 2
  by_cases h : a = b
  · subst h; simp
  · simp [h]
theorem gNe_int (a b : Int) : gNe (.int a) (.int b) = some (.bl (!decide (a = b))) := by unfold gNe; rw [gEq_int]
theorem int_inj : Function.Injective D.int := fun a b h => by injection h
theorem map_inj {α : Type} {f : α → D} (hf : Function.Injective f) : ∀ {xs ys : List α}, xs.map f = ys.map f → xs = ys
  | [], [], _ => rfl
  | [], y :: ys, h => by cases h
  | x :: xs, [], h => by cases h
  | x :: xs, y :: ys, h => by
    rw [List.map_cons,
      List.map_cons] at h
    injection h with h1 h2
    rw [hf h1, map_inj hf h2]
theorem pls_map {α : Type} {f : α → D} {n : Nat} (hf : ∀ a, pl (f a) n = true) : ∀ xs : List α, pls (xs.map f) n = true
  | [] => rfl
  | x :: xs => by rw [List.map_cons, pls, hf, pls_map hf xs]; rfl
theorem gEq_inj {α : Type} [DecidableEq α] {f : α → D} (hf : Function.Injective f) (hp : ∀ a, pl (f a) 60 = true) (a b : α) (hc : cp (f a) (f b) = true) : gEq (f a) (f b) = some (.bl (decide (a = b))) := by
  rw [gEq_pl (hp a) (hp b) hc]
  congr 2
  by_cases h : a = b
  · subst h; simp
  · have : f a ≠ f b := fun z => h (hf z)
    simp [h, this]
theorem cps_map {α : Type} {f : α → D} (hf : ∀ a b, cp (f a) (f b) = true) : ∀ xs ys : List α, cps (xs.map f) (ys.map f) = true
  | [], _ => by rw [List.map_nil, cps]; intro d ds e es h; cases h
  | x :: xs, [] => by rw [List.map_nil, cps]; intro d ds e es _ h; cases h
  | x :: xs, y :: ys => by rw [List.map_cons, List.map_cons, cps, hf, cps_map hf xs ys]; rfl
theorem ixN_nat {n k : Nat} (h : k < n) : ixN n (k : Int) = some k := by
  unfold ixN; rw [if_pos (by omega), if_pos (by omega), Int.toNat_natCast]
theorem atI_nat {α : Type} {xs : List α} {k : Nat} {x : α} (h : xs[k]? = some x) : atI xs (k : Int) = some x := by
  unfold atI
  obtain ⟨hl, _⟩ := List.getElem?_eq_some_iff.mp h
  rw [ixN_nat hl]
  exact h
/-! loops -/
theorem seq_nx {F G : SM} {ss s' : En} (h : F ss = .nx s') : sSeq F G ss = G s' := by unfold sSeq; rw [h]
theorem aOne {f : EB} {ss : En} {n : Nat} {d : D} (h : f ss = .ok (n, d)) : aCons f aNil ss = .ok [d] := by
  simp [aCons, aNil, h]
theorem asg_ok {f : EB} {ss : En} {i n : Nat} {d : D} (h : f ss = .ok (n, d)) : sAsg i f ss = .nx (ss.set i (.v n d)) := by unfold sAsg; rw [h]
theorem own0_ok {f : EB} {ss : En} {d : D} (h : f ss = .ok (0, d)) : own0 f ss = .ok (0, d) := by
  unfold own0; rw [h]; rfl
theorem fn_rt {np nn : Nat} {F : SM} {ds : List D} {env : En} {n : Nat} {d : D} (h1 : ds.length = np) (h2 : ds.map (Sl.v 0) ++ List.replicate (nn - np) .un = env) (h : F env = .rt n d) : fnM np nn F ds = .ok (n, d) := by
  unfold fnM
  rw [if_pos h1, h2, h]
theorem fn_ex {np nn : Nat} {F : SM} {ds : List D} {env ss : En} {e : Exo} (h1 : ds.length = np) (h2 : ds.map (Sl.v 0) ++ List.replicate (nn - np) .un = env) (h : F env = .exc e ss) : fnM np nn F ds = .exc e := by
  unfold fnM
  rw [if_pos h1, h2, h]
theorem frz_ok {f : EB} {ss : En} {n : Nat} {d : D} (h : f ss = .ok (n, d)) : frzE f ss = .ok (0, d) := by unfold frzE; rw [h]
theorem var_ok {ss : En} {i n : Nat} {d : D} (h : ss[i]? = some (.v n d)) : eVar i ss = .ok (n, d) := by unfold eVar; rw [h]
theorem frzS_at {i n : Nat} {F : SM} {ss : En} {d : D} (h : ss[i]? = some (.v n d)) : sFrz i F ss = F (ss.set i (.v 0 d)) := by unfold sFrz frzSl; rw [h]
theorem a0_ok {f : EB} {g : EA} {ss : En} {d : D} {ds : List D} (h : f ss = .ok (0, d)) (hg : g ss = .ok ds) : a0Cons f g ss = .ok (d :: ds) := by
  have e : a0Cons f g ss = (match g ss with
    | .ok ds => .ok (d :: ds)
    | .exc e => .exc e
    | .no => .no) := by unfold a0Cons; rw [h]; rfl
  rw [e, hg]
theorem aC_ok {f : EB} {g : EA} {ss : En} {n : Nat} {d : D} {ds : List D} (h : f ss = .ok (n, d)) (hg : g ss = .ok ds) : aCons f g ss = .ok (d :: ds) := by
  unfold aCons; rw [h, hg]
theorem fn_ok' {m : FM} {g : EA} {ss : En} {ds : List D} (h : g ss = .ok ds) : eFn m g ss = m ds := by unfold eFn; rw [h]
theorem fnF_ok {m : FM} {g : EA} {ss : En} {ds : List D} {n : Nat} {d : D} (h : g ss = .ok ds) (hm : m ds = .ok (n, d)) (hf : flat d = true) : eFnF m g ss = .ok (0, d) := by
  unfold eFnF; rw [h]; simp only [hm, hf, if_true]
theorem test_ok {f : EB} {ss : En} {n : Nat} {b : Bool} (h : f ss = .ok (n, .bl b)) : eTest f ss = .ok b := by unfold eTest; rw [h]
theorem tnot_ok {t : ET} {ss : En} {b : Bool} (h : t ss = .ok b) : tyNot t ss = .ok (!b) := by unfold tyNot; rw [h]
theorem tand_t {t u : ET} {ss : En} (h : t ss = .ok true) : tyAnd t u ss = u ss := by unfold tyAnd; rw [h]
theorem tand_f {t u : ET} {ss : En} (h : t ss = .ok false) : tyAnd t u ss = .ok false := by unfold tyAnd; rw [h]
theorem tor_t {t u : ET} {ss : En} (h : t ss = .ok true) : tyOr t u ss = .ok true := by unfold tyOr; rw [h]
theorem tor_f {t u : ET} {ss : En} (h : t ss = .ok false) : tyOr t u ss = u ss := by unfold tyOr; rw [h]
theorem tand_ok {t u : ET} {ss : En} {a b : Bool} (h : t ss = .ok a) (hu : u ss = .ok b) : tyAnd t u ss = .ok (a && b) := by
  cases a with
  | true => rw [tand_t h, hu]; rfl
  | false => rw [tand_f h]; rfl
theorem op_ok {g : D → D → Option D} {f1 f2 : EB} {ss : En} {n m : Nat} {a b d : D} (h1 : f1 ss = .ok (n, a)) (h2 : f2 ss = .ok (m, b)) (hg : g a b = some d) : eOp g f1 f2 ss = .ok (0, d) := by unfold eOp; rw [h1]; simp only [h2, hg]
theorem un_ok {g : D → Option D} {f1 : EB} {ss : En} {n : Nat} {a d : D} (h1 : f1 ss = .ok (n, a)) (hg : g a = some d) : eUn g f1 ss = .ok (0, d) := by unfold eUn; rw [h1]; simp only [hg]
theorem call_ok {g : List D → Option D} {ga : EA} {ss : En} {ds : List D} {d : D} (h1 : ga ss = .ok ds) (hg : g ds = some d) : eCall g ga ss = .ok (0, d) := by unfold eCall; rw [h1]; simp only [hg]
theorem and_ok0 {f g : EB} {ss : En} {n : Nat} {a b : Bool} (h1 : f ss = .ok (n, .bl a)) (h2 : g ss = .ok (0, .bl b)) : eAnd f g ss = .ok (0, .bl (a && b)) := by
  unfold eAnd; rw [h1]
  cases a with
  | true => simp only [h2]; rfl
  | false => rfl
theorem not_ok {f : EB} {ss : En} {n : Nat} {a : Bool} (h1 : f ss = .ok (n, .bl a)) : eNot f ss = .ok (0, .bl (!a)) := by unfold eNot; rw [h1]
theorem lg {i : Int} (h1 : -4611686018427387904 < i) (h2 : i < 4611686018427387904) : i.natAbs.log2 < 63 := by
  by_cases h : i.natAbs = 0
  · rw [h]; decide
  · rw [Nat.log2_lt h]
    have e : (2 : Nat) ^ 63 = 9223372036854775808 := by decide
    rw [e]; omega
theorem mod_ok {f1 f2 : EB} {ss : En} {n m : Nat} {a b : Int} (h1 : f1 ss = .ok (n, .int a)) (h2 : f2 ss = .ok (m, .int b)) (hb : 0 < b) : eOp gMod f1 f2 ss = .ok (0, .int (a % b)) := by
  refine op_ok h1 h2 ?_
  unfold gMod gIntC
  simp only [decide_eq_true hb, if_true]
theorem div_ok {f1 f2 : EB} {ss : En} {n m : Nat} {a b : Int} (h1 : f1 ss = .ok (n, .int a)) (h2 : f2 ss = .ok (m, .int b)) (hb : 0 < b) (hb2 : b < 4611686018427387904) : eOp gDiv f1 f2 ss = .ok (0, .int (a / b)) := by
  refine op_ok h1 h2 ?_
  have x := lg (i := b) (by omega) hb2
  unfold gDiv gIntC
  have d : decide (b.natAbs.log2 < 9000) = true := decide_eq_true (by omega)
  simp only [decide_eq_true hb, d, Bool.and_self, if_true]
theorem add_ok {f1 f2 : EB} {ss : En} {n m : Nat} {a b : Int} (h1 : f1 ss = .ok (n, .int a)) (h2 : f2 ss = .ok (m, .int b)) : eOp gAdd f1 f2 ss = .ok (0, .int (a + b)) := op_ok h1 h2 rfl
theorem sub_ok {f1 f2 : EB} {ss : En} {n m : Nat} {a b : Int} (h1 : f1 ss = .ok (n, .int a)) (h2 : f2 ss = .ok (m, .int b)) : eOp Mv.gSub f1 f2 ss = .ok (0, .int (a - b)) := op_ok h1 h2 rfl
theorem lt_ok {f1 f2 : EB} {ss : En} {n m : Nat} {a b : Int} (h1 : f1 ss = .ok (n, .int a)) (h2 : f2 ss = .ok (m, .int b)) : eOp gLt f1 f2 ss = .ok (0, .bl (decide (a < b))) := op_ok h1 h2 rfl
theorem gt_ok {f1 f2 : EB} {ss : En} {n m : Nat} {a b : Int} (h1 : f1 ss = .ok (n, .int a)) (h2 : f2 ss = .ok (m, .int b)) : eOp gGt f1 f2 ss = .ok (0, .bl (decide (b < a))) := op_ok h1 h2 rfl
theorem ge_ok {f1 f2 : EB} {ss : En} {n m : Nat} {a b : Int} (h1 : f1 ss = .ok (n, .int a)) (h2 : f2 ss = .ok (m, .int b)) : eOp gGe f1 f2 ss = .ok (0, .bl (decide (b ≤ a))) := op_ok h1 h2 rfl
theorem eq_ok {f1 f2 : EB} {ss : En} {n m : Nat} {a b : Int} (h1 : f1 ss = .ok (n, .int a)) (h2 : f2 ss = .ok (m, .int b)) : eOp gEq f1 f2 ss = .ok (0, .bl (decide (a = b))) := op_ok h1 h2 (gEq_int a b)
theorem pow_ok {ss : En} {a : Int} {n : Nat} (hn : n ≤ 1000000) (ha : a.natAbs < 18446744073709551616) : eOp gPow (eC (.int a)) (eC (.int (n : Int))) ss = .ok (0, .int (a ^ n)) := by
  refine op_ok (n := 0) (m := 0) rfl rfl ?_
  unfold gPow gIntC
  have e : (2 : Nat) ^ 64 = 18446744073709551616 := by
    decide
  have d1 : decide (0 ≤ (n : Int)) = true := decide_eq_true (by omega)
  have d2 : decide ((n : Int) ≤ 1000000) = true := decide_eq_true (by omega)
  have d3 : decide (a.natAbs < 2 ^ 64) = true := decide_eq_true (by rw [e]; exact ha)
  simp only [d1, d2, d3, Bool.and_self, if_true, Int.toNat_natCast]
theorem c_ok {ss : En} {d : D} : eC d ss = .ok (0, d) := rfl
end Mv
namespace Mv
open PySem L2
section
variable {K : PySem.W.Frag} {B0 H0 B B' H H' : Hp} {σ : St} {ss : En} {fps : List (List Addr)}
/-- what slot i owns is changed in place, and may take up fresh cells -/
theorem SI.chg (h : SI K B0 H0 B σ H ss fps) {i : Nat} {s' : Sl} {v : V} {fp fp' : List Addr} (hσ : σ[i]? = some (some v)) (hf : fps[i]? = some fp) (eq : ∀ a, a ∉ fp → H' a = H a) (r : slotOk K B H' s' (some v) fp') (nd : fp'.Nodup)
    (fr : ∀ a ∈ fp', a ∈ fp ∨ (a ∉ fps.flatten ∧ B a = none ∧ H0 a = none)) : SI K B0 H0 B σ H' (ss.set i s') (fps.set i fp') := by
  have hm : fp ∈ fps := List.mem_of_getElem? hf
  have bh : Le B H' := fun a o e => by
    rw [eq a fun z => by rw [h.pi.fr a (mem_fl hm z)] at e; cases e]
    exact h.pi.bh a o e
  have h0 : Le H0 H' := fun a o e => by
    rw [eq a fun z => by rw [h.fr a (mem_fl hm z)] at e; cases e]
    exact h.st.hh a o e
  have q : All3 (slotOk K B H') (ss.set i s') (σ.set i (some v)) (fps.set i fp') :=
    all3_ixset h.pi.al (fun j s o c hj hc w => w.mono (Le.refl B) fun a ha => eq a fun z => apart_of h.pi.nd hf hc hj a ha z) r
  rw [set_same hσ] at q
  have both : ∀ a ∈ (fps.set i fp').flatten, B a = none ∧ H0 a = none := fun a ha => by
    rcases mem_set_fl ha with z | z
    · exact ⟨h.pi.fr a z, h.fr a z⟩
    · rcases fr a z with w | w
      · exact ⟨h.pi.fr a (mem_fl hm w), h.fr a (mem_fl hm w)⟩
      · exact w.2
  refine ⟨⟨bh, q, nodup_set h.pi.nd nd i (fun _ _ => True.intro) fun a ha c hc hac => ?_, fun a ha => (both a ha).1⟩, ⟨h.st.bb, h0, bh, h.st.dj⟩, fun a ha => (both a ha).2⟩
  rcases fr a ha with w | w
  · exact ⟨_, hf, w⟩
  · exact absurd (mem_fl hc hac) w.1
end
end Mv
namespace Mv
open PySem L2
end Mv
namespace Mv
open PySem L2
open Classical
/-! ### lending a list to a def that changes it -/
def hideH (H : Hp) (fp : List Addr) : Hp := fun a => if a ∈ fp then none else H a
theorem hide_in {H : Hp} {fp : List Addr} {a : Addr} (h : a ∈ fp) : hideH H fp a = none := by unfold hideH; rw [if_pos h]
theorem hide_out {H : Hp} {fp : List Addr} {a : Addr} (h : a ∉ fp) : hideH H fp a = H a := by unfold hideH; rw [if_neg h]
theorem hide_le {H : Hp} {fp : List Addr} : Le (hideH H fp) H := fun a o e => by
  by_cases h : a ∈ fp
  · rw [hide_in h] at e; cases e
  · rw [hide_out h] at e; exact e
theorem all3_mk {α β γ : Type} {R : α → β → γ → Prop} : ∀ {as : List α} {bs : List β} {cs : List γ}, as.length = bs.length → bs.length = cs.length → (∀ (i : Nat) a b c, as[i]? = some a → bs[i]? = some b → cs[i]? = some c → R a b c) → All3 R as bs cs
  | [], [], [], _, _, _ => .nil
  | a :: as, b :: bs, c :: cs, h1, h2, h => .cons (h 0 a b c rfl rfl rfl) (all3_mk (by simpa using h1) (by simpa using h2) fun i a b c ha hb hc => h (i + 1) a b c (by simpa using ha) (by simpa using hb) (by simpa using hc))
  | [], _ :: _, _, h, _, _ => by cases h
  | _ :: _, [], _, h, _, _ => by cases h
  | [], [], _ :: _, _, h, _ => by cases h
  | _ :: _, _ :: _, [], _, h, _ => by cases h
end Mv
namespace Mv
open PySem L2
/-- the slot's tag stays -/
def slPut : Sl → D → Sl
  | .un, _ => .un
  | .v n _, d => .v n d
  | .o w n _, d => .o w n d
  | .s a C fs, _ => .s a C fs
def slGet : Sl → Option (Nat × D)
  | .un => none
  | .v n d => some (n, d)
  | .o _ n d => some (n, d)
  | .s _ _ _ => none
end Mv
namespace Mv
open PySem L2
end Mv
namespace Mv
open PySem L2
open Classical
/-! ### a loop over a list that a slot owns: what is owned is out of reach meanwhile -/
section
variable {K : PySem.W.Frag} {B B' H H' : Hp}
theorem Ow.any {n : Nat} {d : D} {v : V} {fp : List Addr} (h : Ow K B H (n + 1) d v fp) : ∃ q : D, Rep K B q v := by
  obtain ⟨_, p, _, _, _, e, _⟩ | ⟨_, p, _, _, _, e, _⟩ | ⟨_, _, p, _, _, _, _, e, _⟩ | ⟨_, p, _, _, _, e, _⟩ | ⟨_, p, _, _, _, e, _⟩ | ⟨_, _, e⟩ := h
  case inr.inr.inr.inr.inr => exact ⟨_, e⟩
  all_goals exact ⟨.exo p, by rw [e, Rep]⟩
end
end Mv
namespace Mv
open PySem L2 NdefX
open Classical
/-! ### super().__init__(msg) in an exception class's own __init__ -/
end Mv
namespace Mv
open PySem L2 NdefX
open Classical
/-! ### an exception class's own __init__ -/
/-- the values at the entry -/
def sup0 (a : Addr) (xs : List V) : L2.St := some (.ref a) :: (xs.map some ++ [none])
/-- self's fields are set, in a dict of its own -/
def Set0 (H : Hp) (a C : Addr) (fl : List Str) (xs : List V) (Q : Hp → Prop) : Prop := ∀ H2 d, d ≠ a → H d = none → H2 a = some (exo a C (some d)) → H2 d = some (exd d (fl.zip xs).reverse) → (∀ b, b ≠ a → b ≠ d → H2 b = H b) → Q H2
def RestOk (K : PySem.W.Frag) (fl : List Str) (tr : TS) : Prop := ∀ a C xs H D, xs.length = fl.length → OexC K C → (∀ f ∈ fl, PySem.W.findIn K (.ref C) f = some none) → H a = some (exo a C none) → Set0 H a C fl xs (fun H2 => D.nx (sup0 a xs) H2) → tr D (sup0 a xs) H
/-! ### its message -/
/-! ### its fields -/
section
variable {K : PySem.W.Frag} {f g : Str}
theorem rest1 : RestOk K [f] (tOst K f (tVar 0) (tVar 1)) := fun a C xs H D hl T hno hx q => by
  obtain ⟨x, rfl⟩ : ∃ x, xs = [x] := by
    cases xs with
    | nil => cases hl
    | cons x xs => cases xs with
      | nil => exact ⟨x, rfl⟩
      | cons y ys => simp at hl
  refine ⟨x, rfl, _, rfl, a, C, rfl, T, hno _ (by simp), .inl ⟨hx, fun dx hd hda => ?_⟩⟩
  refine q _ dx hda hd upd_same (by rw [upd_ne hda, upd_same]; rfl) fun b h1 h2 => by rw [upd_ne h1, upd_ne h2]
end
end Mv
namespace Mv
open PySem L2 NdefX
open Classical
/-! ### raise X(e, ..), X's own __init__ known -/
/-! ### e.f of the exception at hand -/
/-! ### f(..) in an except suite: a fresh answer -/
/-! ### lists of truth values compared -/
end Mv
namespace Mv
open PySem L2 NdefX
open Classical
/-! ### for over range while an exception is handled -/
/-! ### a list comprehension while an exception is handled -/
end Mv
namespace Mv
open PySem L2 NdefX
open Classical
/-! ### what the written part says of an exception class, as checks -/
instance : DecidableEq (Option (Option Value)) := inferInstance
/-! ### texts one behind the other -/
end Mv
namespace Mv
open PySem L2
open Classical
/-! ### is True, is False -/
section
variable {X : Cx} {W : WX} {a b e : Expr} {es : List Expr} {pos p p2 : Pos} {f f1 f2 : EB} {lo hi : Option Expr} {l h : EP}
/-! ### t + u of tuples -/
/-! ### tuple(x) -/
/-- tuple(x): of a list a new one, of a tuple itself -/
def kTupX (K : PySem.W.Frag) (x : V) (H : Hp) (Q : VK) : Prop := (∃ p xs, x = .ref p ∧ SqL K H p xs ∧ NewT H xs Q) ∨ (∃ p xs, x = .ref p ∧ SqT K H p xs ∧ Q (.ref p) H)
theorem pe_tupleX {ta : TE} (hg : Gl X "tuple") (hm : X.mg "tuple" = none) (ha : PE X a ta) (na : starEach [a] X.env = (false, eval a X.env) :: starEach [] X.env := by rfl) :
    PE X (.Call (.Name "tuple" p) [a] [] pos) (tThen ta (kTupX X.K)) := by
  constructor
  intro pins s σ H Q it want
  refine PyProof.Rows.Call_ ?_
  apply ld_blt it hg hm PyProof.Rows.boot_tuple _ (by decide) (by decide)
  refine PyProof.Rows.callWith_type1 (one_arg ha it want ?_ na) na
  rintro v s2 x H2 it2 same (⟨q, xs, rfl, hs, new⟩ | ⟨q, xs, rfl, hs, same'⟩)
  · obtain rfl : v = .ref q := same
    obtain ⟨us, ru, pu, small⟩ := it2.list hs
    have fits : us.toArray.size ≤ sizeLine := by rw [List.size_toArray, ← ru.length]; exact small
    exact call_tuple_list pu.isList (fun h' keep => laidX (it2.kept (t' := s2.toks) keep) ru small new) fits
  · obtain rfl : v = .ref q := same
    obtain ⟨us, _, pu, _⟩ := it2.tuple hs
    exact PyProof.Rows.call_tuple_tup pu ⟨.ref q, H2, it2, rfl, same'⟩
def eTupOf (f : EB) : EB := fun ss => match f ss with
  | .ok (n, .lst ds) => if n ≤ 1 then .ok (0, .tup ds) else .no
  | .ok (0, .tup ds) => .ok (0, .tup ds)
  | .ok (_, _) => .no
  | .exc e => .exc e
  | .no => .no
theorem b_tupOf (hg : Gl X "tuple") (hm : X.mg "tuple" = none) (ha : PE X a (tB X.K W f)) (na : starEach [a] X.env = (false, eval a X.env) :: starEach [] X.env := by rfl) : PE X (.Call (.Name "tuple" p) [a] [] pos) (tB X.K W (eTupOf f)) := by
  refine pe_w (pe_tupleX hg hm ha na) fun σ H Q hq => ?_
  obtain ⟨B, ss, fps, pi, k⟩ := hq
  refine ⟨B, ss, fps, pi, ?_⟩
  unfold eTupOf at k
  cases h1 : f ss with
  | ok r =>
    obtain ⟨n, d⟩ := r
    cases d with
    | lst ds =>
      simp only [h1] at k
      by_cases hn : n ≤ 1
      · rw [if_pos hn] at k
        intro B1 v H1 s1 bw
        obtain ⟨p, xs, rfl, hp, rs⟩ := bw.items s1.bh hn
        refine .inl ⟨p, xs, rfl, SqL.of hp, fun q o hq ho => ?_⟩
        obtain ⟨q1, q2⟩ := new_tup s1 rs hq ho
        exact k _ _ _ q1 (bw0 q2)
      · rw [if_neg hn] at k; exact k.elim
    | tup ds =>
      cases n with
      | succ n => simp only [h1] at k
      | zero =>
        simp only [h1] at k
        intro B1 v H1 s1 bw
        have r := bw.rep
        have r' := r
        rw [Rep] at r'
        obtain ⟨p, xs, rfl, hp, rs⟩ := r'
        exact .inr ⟨p, xs, rfl, (s1.bh.tx hp).sqT, k B1 _ H1 s1 (bw0 r)⟩
    | _ => cases n <;> (simp only [h1] at k)
  | exc e => simp only [h1] at k; exact k
  | no => simp only [h1] at k
/-! ### a slice of a text -/
/-! ### list(range(..)) -/
/-! ### xs.index(y), ints -/
def eIndex (f g : EB) : EB := fun ss => match f ss with
  | .ok (n, .lst ds) => if n ≤ 1 then (match g ss with
    | .ok (_, .int i) => (match intsOf ds with
      | some ns => (match ns.findIdx? (fun j => decide (j = i)) with
        | some j => .ok (0, .int (j : Nat))
        | none => .no)
      | none => .no)
    | .ok (_, _) => .no
    | .exc e => .exc e
    | .no => .no) else .no
  | .ok (_, _) => .no
  | .exc e => .exc e
  | .no => .no
theorem eqV_int {i j : Int} : eqV (.int i) (.int j) = decide (i = j) := by
  by_cases h : i = j
  · subst h; simp [eqV]
  · simp [eqV, h]
theorem b_index (ho : PE X a (tB X.K W f1)) (hb : PE X b (tB X.K W f2)) {apos : Pos}
    (hbase : attributeBase a "index" X.env (eval a X.env) = eval a X.env := by rfl)
    (hfew : ((backTo pos (starEach (b :: []) X.env)).all (fun x => !x.1) && (backToKw pos (keywordEach [] X.env)).all (fun x => x.1.isSome)
      && decide ((b :: ([] : List Expr)).length + ([] : List Keyword).length + (if ([] : List Keyword).isEmpty then 0 else 1) < 30)) = true := by rfl)
    (hline : (apos.endLine == pos.line) = true := by rfl) (hs : starEach (b :: []) X.env = (false, eval b X.env) :: starEach [] X.env := by rfl) (hplain : (backTo pos (starEach [] X.env)).any (·.1) = false := by rfl) :
    PE X (.Call (.Attribute a "index" apos) [b] [] pos) (tB X.K W (eIndex f1 f2)) := by
  refine pe_w (pe_bm PySem.F.plainAttrs_list PySem.F.slot_list_index PySem.F.type_list_index mt_index ho (pa_cons hb pa_nil hs) hbase hfew hline hs hplain) fun σ H Q hq => ?_
  obtain ⟨B, ss, fps, pi, k⟩ := hq
  refine ⟨B, ss, fps, pi, ?_⟩
  unfold eIndex at k
  cases h1 : f1 ss with
  | ok r =>
    obtain ⟨n, d⟩ := r
    cases d <;> first | (simp only [h1] at k; done) | skip
    rename_i ds
    simp only [h1] at k
    by_cases hn : n ≤ 1
    · rw [if_pos hn] at k
      intro B1 v H1 s1 bw
      obtain ⟨p, xs, rfl, hp, rs⟩ := bw.items s1.bh hn
      refine ⟨.inl ⟨rfl, xs, SqL.of hp⟩, B1, ss, fps, pi.step s1, ?_⟩
      cases h2 : f2 ss with
      | ok r =>
        obtain ⟨m, d⟩ := r
        cases d <;> first | (simp only [h2] at k; done) | skip
        rename_i i
        simp only [h2] at k
        cases h3 : intsOf ds with
        | none => simp only [h3] at k
        | some ns =>
          simp only [h3] at k
          cases h4 : ns.findIdx? (fun j => decide (j = i)) with
          | none => simp only [h4] at k
          | some j =>
            simp only [h4] at k
            intro B2 w H2 s2 bw2
            have hw : w = .int i := by
              have := bw2.flat (B' := B2) rfl
              rw [Rep] at this
              exact this
            subst hw
            have e1 := intsOf_eq h3
            subst e1
            have e2 := reps_ints rs
            subst e2
            obtain ⟨hj, hji, hno⟩ := List.findIdx?_eq_some_iff_getElem.mp h4
            refine ⟨p, ns.map V.int, .int i, j, .int ns[j], rfl, rfl, SqL.of (s2.hh _ _ hp), rfl, by simp [flatV], by simp [hj], ?_, fun m z' hm hz => ?_, k B2 _ H2 (s1.trans s2) (bw0 rep_int)⟩
            · rw [eqV_int]; exact hji
            · rw [List.getElem?_map] at hz
              cases hx : ns[m]? with
              | none => rw [hx] at hz; cases hz
              | some x =>
                rw [hx] at hz
                cases hz
                rw [eqV_int]
                obtain ⟨hm', e⟩ := List.getElem?_eq_some_iff.mp hx
                have := hno m hm
                rw [e] at this
                simpa using this
      | exc e => simp only [h2] at k; exact fun B' cls dd H' s ex => k B' cls dd H' (s1.trans s) ex
      | no => simp only [h2] at k
    · rw [if_neg hn] at k; exact k.elim
  | exc e => simp only [h1] at k; exact k
  | no => simp only [h1] at k
end
/-! ### sorted of pairs of ints -/
end Mv
namespace Mv
open PySem L2
/-! ### mirrors evaluated: places by whole numbers -/
/-- the item at a place -/
def at0 (xs : List Int) (z : Int) : Int := xs.getD z.toNat 0
def atD {α : Type} (xs : List α) (e : α) (z : Int) : α := xs.getD z.toNat e
theorem atD_some {α : Type} {xs : List α} {e : α} {z : Int} (h0 : 0 ≤ z) (h1 : z < xs.length) : ∃ k : Nat, z = (k : Int) ∧ xs[k]? = some (atD xs e z) := by
  obtain ⟨k, rfl⟩ := Int.eq_ofNat_of_zero_le h0
  refine ⟨k, rfl, ?_⟩
  have hk : k < xs.length := by omega
  unfold atD
  rw [Int.toNat_natCast, List.getD_eq_getElem?_getD, List.getElem?_eq_getElem hk]
  rfl
theorem atD_mem {α : Type} {xs : List α} {e : α} {z : Int} (h0 : 0 ≤ z) (h1 : z < xs.length) : atD xs e z ∈ xs := by
  obtain ⟨k, _, h⟩ := atD_some (e := e) h0 h1
  exact List.mem_of_getElem? h
/-- tuples of whole numbers -/
def it (xs : List Int) : D := .tup (xs.map .int)
/-- a tuple written out -/
theorem ev_ixT {f g : EB} {ss : En} {m k : Nat} {ds : List D} {d : D} (h : f ss = .ok (0, .tup ds)) (hg : g ss = .ok (m, .int (k : Int))) (hx : ds[k]? = some d) : eIx f g ss = .ok (0, d) := by
  unfold eIx; rw [h]; simp only [hg]
  have : ixD 0 (.tup ds) (.int (k : Int)) = some (0, d) := by
    unfold ixD
    dsimp only
    rw [if_pos rfl, atI_nat hx]
    rfl
  simp only [this]
theorem ev_ne {f1 f2 : EB} {ss : En} {n m : Nat} {a b : Int} (h1 : f1 ss = .ok (n, .int a)) (h2 : f2 ss = .ok (m, .int b)) : eOp gNe f1 f2 ss = .ok (0, .bl (!decide (a = b))) := op_ok h1 h2 (gNe_int a b)
theorem ev_asg {f : EB} {ss s' : En} {i n : Nat} {d : D} (h : f ss = .ok (n, d)) (e : ss.set i (.v n d) = s') : sAsg i f ss = .nx s' := by rw [← e]; exact asg_ok h
theorem ev_nil {ss : En} : aNil ss = .ok [] := rfl
theorem ev_tup {ga : EA} {ss : En} {ds : List D} (h : ga ss = .ok ds) (hl : ds.length ≤ 10000000) : eTup ga ss = .ok (0, .tup ds) := by
  unfold eTup; rw [h]
  dsimp only
  rw [if_pos hl]
theorem ev_fn {m : FM} {g : EA} {ss : En} {ds : List D} {r : Res (Nat × D)} (h : g ss = .ok ds) (h2 : m ds = r) : eFn m g ss = r := (fn_ok' h).trans h2
theorem ev_true {ss : En} : tcYes ss = .ok true := rfl
theorem varo_ok {ss : En} {i n : Nat} {w : V} {d : D} (h : ss[i]? = some (.o w n d)) : eVar i ss = .ok (n, d) := by unfold eVar; rw [h]
/-! ### lists of lists of numbers, as drawn -/
def GI (m : Nat) (n : Int) (xs : List (List Int)) : Prop := ∀ l ∈ xs, l.length ≤ m ∧ ∀ e ∈ l, -1 ≤ e ∧ e < n
theorem GI.mono {m m' : Nat} {n n' : Int} {xs : List (List Int)} (h : GI m n xs) (h1 : m ≤ m') (h2 : n ≤ n') : GI m' n' xs := fun l hl => ⟨Nat.le_trans (h l hl).1 h1, fun e he => ⟨((h l hl).2 e he).1, Int.lt_of_lt_of_le ((h l hl).2 e he).2 h2⟩⟩
theorem GI.app {m : Nat} {n : Int} {xs : List (List Int)} {v : List Int} (h : GI m n xs) (h1 : v.length ≤ m) (h2 : ∀ e ∈ v, -1 ≤ e ∧ e < n) : GI m n (xs ++ [v]) := fun l hl => by
  rcases List.mem_append.mp hl with hl | hl
  · exact h l hl
  · rw [List.mem_singleton.mp hl]; exact ⟨h1, h2⟩
theorem GI.set {m : Nat} {n : Int} {xs : List (List Int)} {v : List Int} {i : Nat} (h : GI m n xs) (h1 : v.length ≤ m) (h2 : ∀ e ∈ v, -1 ≤ e ∧ e < n) : GI m n (xs.set i v) := fun l hl => by
  rcases List.mem_or_eq_of_mem_set hl with hl | hl
  · exact h l hl
  · rw [hl]; exact ⟨h1, h2⟩
theorem GI.at {m : Nat} {n : Int} {xs : List (List Int)} (h : GI m n xs) {z : Int} (h0 : 0 ≤ z) (h1 : z < xs.length) : (atD xs [] z).length ≤ m ∧ ∀ e ∈ atD xs [] z, -1 ≤ e ∧ e < n := h _ (atD_mem h0 h1)
theorem GI.push {m : Nat} {n : Int} {xs : List (List Int)} (h : GI m n xs) {z v : Int} (h0 : 0 ≤ z) (h1 : z < xs.length) (h2 : (atD xs [] z).length < m) (h3 : -1 ≤ v) (h4 : v < n) : GI m n (xs.set z.toNat (atD xs [] z ++ [v])) :=
  h.set (by rw [List.length_append]; simp; omega) fun e he => by
    obtain he | he := List.mem_append.mp he
    · exact (h.at h0 h1).2 e he
    · rw [List.mem_singleton.mp he]; exact ⟨h3, h4⟩
/-- the empty ones -/
def Emp (xs : List (List Int)) (i : Nat) : Prop := xs[i]? = some []
theorem Emp.app {xs : List (List Int)} {v : List Int} {i : Nat} (h : Emp (xs ++ [v]) i) : Emp xs i ∨ (i = xs.length ∧ v = []) := by
  unfold Emp at *
  by_cases hi : i < xs.length
  · rw [List.getElem?_append_left hi] at h
    exact .inl h
  · rw [List.getElem?_append_right (by omega)] at h
    by_cases he : i - xs.length = 0
    · rw [he] at h
      exact .inr ⟨by omega, by simpa using h⟩
    · rw [List.getElem?_eq_none (by simp; omega)] at h
      cases h
theorem Emp.push {xs : List (List Int)} {l : List Int} {v : Int} {j i : Nat} (h : Emp (xs.set j (l ++ [v])) i) : Emp xs i ∧ i ≠ j := by
  unfold Emp at *
  by_cases e : i = j
  · subst e
    rw [List.getElem?_set] at h
    simp only [if_true] at h
    split at h
    · simp at h
    · cases h
  · rw [List.getElem?_set_ne (fun q => e q.symm)] at h
    exact ⟨h, e⟩
end Mv
namespace Mv
open PySem L2
open Classical
/-! ### fields -/
def putD (x : Str) (d : D) : List (Str × D) → List (Str × D)
  | [] => [(x, d)]
  | (g, e) :: r => if g = x then (g, d) :: r else (g, e) :: putD x d r
section
variable {K : PySem.W.Frag} {B : Hp}
theorem RepF.look : ∀ {fs : List (Str × D)} {gs : List (Str × V)} {x : Str} {d : D}, RepF K B fs gs → fs.lookup x = some d → ∃ v, gs.lookup x = some v ∧ Rep K B d v
  | [], gs, x, d, h, e => by cases e
  | (g, e0) :: fs, gs, x, d, h, e => by
    rw [RepF] at h
    obtain ⟨v, vs, rfl, h1, h2⟩ := h
    rw [List.lookup_cons] at e ⊢
    cases hx : x == g with
    | true => rw [hx] at e; cases e; exact ⟨v, rfl, h1⟩
    | false => rw [hx] at e; exact RepF.look h2 e
theorem RepF.none : ∀ {fs : List (Str × D)} {gs : List (Str × V)} {x : Str}, RepF K B fs gs → fs.lookup x = Option.none → gs.lookup x = Option.none
  | [], gs, x, h, e => by rw [RepF] at h; rw [h]; rfl
  | (g, e0) :: fs, gs, x, h, e => by
    rw [RepF] at h
    obtain ⟨v, vs, rfl, h1, h2⟩ := h
    rw [List.lookup_cons] at e ⊢
    cases hx : x == g with
    | true => rw [hx] at e; cases e
    | false => rw [hx] at e; exact RepF.none h2 e
theorem RepF.put {x : Str} {d : D} {v : V} (r : Rep K B d v) : ∀ {fs : List (Str × D)} {gs : List (Str × V)}, RepF K B fs gs → RepF K B (putD x d fs) (putF x v gs)
  | [], gs, h => by
    rw [RepF] at h
    subst h
    show RepF K B [(x, d)] [(x, v)]
    rw [RepF]
    exact ⟨v, [], rfl, r, by rw [RepF]⟩
  | (g, e) :: fs, gs, h => by
    rw [RepF] at h
    obtain ⟨w, ws, rfl, h1, h2⟩ := h
    unfold putD putF
    by_cases hg : g = x
    · rw [if_pos hg, if_pos hg, RepF]; exact ⟨v, ws, rfl, r, h2⟩
    · rw [if_neg hg, if_neg hg, RepF]; exact ⟨w, _, rfl, h1, RepF.put r h2⟩
theorem RepF.len : ∀ {fs : List (Str × D)} {gs : List (Str × V)}, RepF K B fs gs → fs.length = gs.length
  | [], gs, h => by rw [RepF] at h; rw [h]; rfl
  | (g, e) :: fs, gs, h => by
    rw [RepF] at h
    obtain ⟨w, ws, rfl, h1, h2⟩ := h
    rw [List.length_cons, List.length_cons, RepF.len h2]
end
/-! ### e.x -/
/-! ### __init__ -/
abbrev FO := List D → Res (List (Str × D))
section
variable {X : Cx} {W : WX} {e : Expr} {es : List Expr} {pos p : Pos} {g1 : EA} {m : FO} {k : Nat} {f C : Addr} {fd : FuncData} {ps : List Str} {x : Str}
/-- what the maker hands on -/
theorem made {B H B1 H1 B' H' : Hp} {a dx dx' : Addr} {fs : List (Str × D)} {gs : List (Str × V)} (s1 : Stp B H B1 H1) (hx : H1 a = none) (hdx : H1 dx = none) (hne : dx ≠ a)
    (st : Stp B1 (hideH (upd (upd H1 dx (.own a)) a (.ins C dx [])) [a]) B' H') (ha : H' a = some (.ins C dx' gs)) (rf : RepF X.K B' fs gs) (hb : B' a = none) :
    Stp B H (upd B' a (.ins C dx' gs)) H' ∧ Rep X.K (upd B' a (.ins C dx' gs)) (.ins C fs) (.ref a) := by
  have keep : ∀ b o, H1 b = some o → (hideH (upd (upd H1 dx (.own a)) a (.ins C dx [])) [a]) b = some o := fun b o e => by
    have n1 : b ≠ a := fun z => by rw [z, hx] at e; cases e
    have n2 : b ≠ dx := fun z => by rw [z, hdx] at e; cases e
    rw [hide_out (fun z => n1 (List.mem_singleton.mp z)), upd_ne n1, upd_ne n2]; exact e
  have le1 : Le B' (upd B' a (.ins C dx' gs)) := Le.new hb
  refine ⟨⟨(s1.bb.trans st.bb).trans le1, fun b o e => st.hh b o (keep b o (s1.hh b o e)), fun b o e => ?_, fun b e1 e2 => ?_⟩, ?_⟩
  · by_cases hba : b = a
    · subst hba; rw [upd_same] at e; cases e; exact ha
    · rw [upd_ne hba] at e; exact st.bh b o e
  · have hba : b ≠ a := fun z => by
      obtain ⟨u, e3⟩ := e2.some
      rw [z] at e3
      rw [s1.hh a u e3] at hx; cases hx
    rw [upd_ne hba]
    refine st.dj b (s1.dj b e1 e2) ?_
    have m1 := e2.le s1.hh
    obtain ⟨u, e3⟩ := m1.some
    rw [keep b u e3, ← e3]; exact m1
  · rw [Rep]; exact ⟨a, dx', gs, rfl, upd_same, RepF.mono le1 _ _ rf⟩
end
end Mv
namespace Mv
open PySem L2
open Classical
/-! ### in: truth values, one sign in a text -/
/-! ### for c in text -/
section
variable {X : Cx} {W : WX} {tg e : Expr} {pos p : Pos} {f : EB} {x : Str}
/-- a constant of the module -/
theorem b_glob {v : V} {u : Value} {d : D} (hg : Gl X x) (hm : X.mg x = some u) (r : RelV v u) (rd : ∀ B, Rep X.K B d v) (hd : (x == ("__debug__" : Str)) = false := by decide) : PE X (.Name x pos) (tB X.K W (eC d)) :=
  b_c (pe_glob hg hm r hd) rd
end
/-! ### a comprehension whose items are owned -/
def lcLN (n : Nat) (tgt : Tgt) (tc : ET) (fe : EB) (sw : En) : List D → Res (List D)
  | [] => .ok []
  | d :: ds => match tgt d sw with
    | some s1 => (match tc s1 with
      | .ok true => (match fe s1 with
        | .ok (m, e) => if m = n then (match lcLN n tgt tc fe sw ds with
          | .ok r => .ok (e :: r)
          | _ => .no) else .no
        | _ => .no)
      | .ok false => lcLN n tgt tc fe sw ds
      | _ => .no)
    | none => .no
def eLcN (n : Nat) (vs : List Nat) (fi : EI) (tgt : Tgt) (tc : ET) (fe : EB) : EB := fun ss => match fi ss with
  | .ok ds => if ds.length < 10000000 then (match lcLN n tgt tc fe (wipeS ss vs) ds with
    | .ok r => .ok (n + 1, .lst r)
    | _ => .no) else .no
  | .exc e => .exc e
  | .no => .no
/-- what the items made so far own -/
structure Acc (K : PySem.W.Frag) (n : Nat) (H1 B H : Hp) (Da : Addr) (done : List D) (acc : List V) (fc : List (List Addr)) : Prop where
  al : All3 (Ow K B H n) done acc fc
  nd : fc.flatten.Nodup
  fr : ∀ a ∈ fc.flatten, B a = none ∧ H1 a = none ∧ a ≠ Da
theorem Acc.here {K : PySem.W.Frag} {n : Nat} {H1 B H : Hp} {Da : Addr} {done : List D} {acc : List V} {fc : List (List Addr)} (h : Acc K n H1 B H Da done acc fc) : ∀ a ∈ fc.flatten, Mut (H a) := fun a ha => by
  obtain ⟨c, hc, hac⟩ := List.mem_flatten.mp ha
  have : ∀ {as : List D} {bs : List V} {cs : List (List Addr)}, All3 (Ow K B H n) as bs cs → c ∈ cs → Mut (H a) := fun h => by
    induction h with
    | nil => intro z; cases z
    | cons r t ih =>
      intro z
      rcases List.mem_cons.mp z with e | e
      · subst e; exact r.at a hac
      · exact ih e
  exact this h.al hc
theorem Acc.step {K : PySem.W.Frag} {n : Nat} {H1 B H B' H' : Hp} {Da : Addr} {done : List D} {acc : List V} {fc : List (List Addr)} (h : Acc K n H1 B H Da done acc fc) (s : Stp B H B' H') : Acc K n H1 B' H' Da done acc fc :=
  ⟨h.al.imp fun a b c _ r => r.le s.bb s.hh, h.nd, fun a ha => ⟨s.dj a (h.fr a ha).1 (h.here a ha), (h.fr a ha).2⟩⟩
theorem Acc.push {K : PySem.W.Frag} {n : Nat} {H1 B H Hb : Hp} {Da : Addr} {done : List D} {acc : List V} {fc : List (List Addr)} {e : D} {y : V} {fp : List Addr} {u : HO} (h : Acc K n H1 B H Da done acc fc) (nw : New K Hb B H n e y fp)
    (old : ∀ a ∈ fc.flatten, Hb a ≠ none) (le : Le H1 Hb) (hD : Hb Da ≠ none) : Acc K n H1 B (upd H Da u) Da (done ++ [e]) (acc ++ [y]) (fc ++ [fp]) := by
  have nD : ∀ a ∈ fp, a ≠ Da := fun a ha z => hD (by rw [← z]; exact (nw.fr a ha).2)
  have m : ∀ {d : D} {v : V} {f : List Addr}, (∀ a ∈ f, a ≠ Da) → Ow K B H n d v f → Ow K B (upd H Da u) n d v f := fun hf r => r.mono (Le.refl B) fun a ha => upd_ne (hf a ha)
  refine ⟨All3.append (h.al.imp fun a b c hc r => m (fun x hx => (h.fr x (mem_fl hc hx)).2.2) r) (.cons (m nD nw.ow) .nil), ?_, fun a ha => ?_⟩
  · rw [List.flatten_append, List.flatten_cons, List.flatten_nil, List.append_nil]
    refine List.nodup_append.mpr ⟨h.nd, nw.nd, fun a ha b hb z => ?_⟩
    subst z
    exact old a ha (nw.fr a hb).2
  · rw [List.flatten_append, List.flatten_cons, List.flatten_nil, List.append_nil] at ha
    obtain ha | ha := List.mem_append.mp ha
    · exact h.fr a ha
    · exact ⟨(nw.fr a ha).1, le.back (nw.fr a ha).2, nD a ha⟩
theorem lc_ofN {K : PySem.W.Frag} {W : WX} {n : Nat} {vs : List Nat} {fi : EI} {g : TG} {tgt : Tgt} {tc : ET} {fe : EB} (tw : TgW K g tgt vs) (σ : L2.St) (H : Hp) (Q : VK) (hq : tM K W (eLcN n vs fi tgt tc fe) σ H Q) :
    tLc (tI K W fi) g (tT K W0 tc) (tM K W0 fe) vs σ H Q := by
  obtain ⟨B, ss, fps, pi, k⟩ := hq
  refine ⟨B, ss, fps, pi, ?_⟩
  unfold eLcN at k
  cases hfi : fi ss with
  | exc e => rw [hfi] at k; exact k
  | no => rw [hfi] at k; exact k
  | ok ds =>
    simp only [hfi] at k
    by_cases hz : ds.length < 10000000
    · rw [if_pos hz] at k
      intro B1 H1 J s1 wk Da hDa
      have fin : ∀ (all : List D) (B' H' : Hp) (acc : List V) (fc : List (List Addr)), Stp B1 H1 B' H' → B' Da = none → H' Da = some (.lst acc) → Acc K n H1 B' H' Da all acc fc → lcLN n tgt tc fe (wipeS ss vs) ds = .ok all → Q (.ref Da) H' := by
        intro all B' H' acc fc st hB hH rs e
        simp only [e] at k
        refine k B' (.ref Da) H' (Da :: fc.flatten) (s1.trans st) ⟨.inl ⟨all, Da, acc, fc, rfl, rfl, hH, rfl, rs.al⟩, List.nodup_cons.mpr ⟨fun z => (rs.fr Da z).2.2 rfl, rs.nd⟩, fun a ha => ?_⟩
        rcases List.mem_cons.mp ha with z | z
        · subst z; exact ⟨hB, s1.hh.back hDa⟩
        · exact ⟨(rs.fr a z).1, s1.hh.back (rs.fr a z).2.1⟩
      have some_ok : ∃ all, lcLN n tgt tc fe (wipeS ss vs) ds = .ok all := by
        cases e : lcLN n tgt tc fe (wipeS ss vs) ds with
        | ok all => exact ⟨all, rfl⟩
        | exc x => simp only [e] at k
        | no => simp only [e] at k
      obtain ⟨all, hall⟩ := some_ok
      refine ⟨fun i m H' => m = ds.length - i ∧ i ≤ ds.length ∧ ∃ (B' : Hp) (done : List D) (acc : List V) (fc : List (List Addr)) (rest : List D), Stp B1 H1 B' H' ∧ B' Da = none ∧ H' Da = some (.lst acc) ∧ Acc K n H1 B' H' Da done acc fc ∧ done.length ≤ i ∧ lcLN n tgt tc fe (wipeS ss vs) (ds.drop i) = .ok rest ∧ all = done ++ rest,
        ⟨ds.length, by simp, Nat.zero_le _, B1, [], [], [], all, ⟨Le.refl _, Le.new hDa, s1.bh.trans (Le.new hDa), fun _ z _ => z⟩, s1.bh.back hDa, upd_same, ⟨.nil, by simp, fun a z => by simp at z⟩, Nat.le_refl _, by rw [List.drop_zero]; exact hall, rfl⟩, ?_⟩
      rintro i m H' ⟨rfl, hi, B', done, acc, fc, rest, st, hB, hH, rs, hl, hr, hd⟩
      obtain ⟨w1, w2, w3⟩ := wk i B' H' st.bb st.bh
      by_cases hlt : i < ds.length
      · refine .inr ⟨w1 hlt, fun H2 => ∃ (B' : Hp) (done : List D) (acc : List V) (fc : List (List Addr)) (rest : List D), Stp B1 H1 B' H2 ∧ B' Da = none ∧ H2 Da = some (.lst acc) ∧ Acc K n H1 B' H2 Da done acc fc ∧ done.length ≤ i + 1 ∧ lcLN n tgt tc fe (wipeS ss vs) (ds.drop (i + 1)) = .ok rest ∧ all = done ++ rest,
          fun H2 q => ⟨ds.length - (i + 1), by omega, rfl, hlt, q⟩, fun x H2 hy => ?_⟩
        obtain ⟨B2, st2, rx⟩ := w3 x H2 ds[i] (List.getElem?_eq_getElem hlt) hy
        have hdr : ds.drop i = ds[i] :: ds.drop (i + 1) := List.drop_eq_getElem_cons hlt
        rw [hdr] at hr
        unfold lcLN at hr
        have keepB : ∀ {Bx Hx : Hp}, Stp B' H' Bx Hx → Bx Da = none ∧ Hx Da = some (.lst acc) := fun s => ⟨s.dj Da hB (.inl ⟨_, hH⟩), s.hh _ _ hH⟩
        cases ht1 : tgt ds[i] (wipeS ss vs) with
        | none => simp only [ht1] at hr; cases hr
        | some s1' =>
          simp only [ht1] at hr
          have pi2 : Pi K B2 (wipe σ vs) H2 (wipeS ss vs) (wipeF fps vs) := ((pi.step s1).wipe vs).step (st.trans st2)
          refine tw B2 σ H2 _ _ ds[i] x s1' _ pi2 rx ht1 fun σ1 fps1 hw pi3 => ⟨hw, B2, s1', fps1, pi3, ?_⟩
          cases htc : tc s1' with
          | exc e => simp only [htc] at hr; cases hr
          | no => simp only [htc] at hr; cases hr
          | ok b =>
            simp only [htc] at hr
            intro B3 H3 st3
            cases b with
            | false =>
              obtain ⟨q1, q2⟩ := keepB (st2.trans st3)
              rw [(if_neg Bool.false_ne_true)]
              exact ⟨B3, done, acc, fc, rest, st.trans (st2.trans st3), q1, q2, rs.step (st2.trans st3), by omega, hr, hd⟩
            | true =>
              rw [if_pos rfl]
              refine ⟨B3, s1', fps1, pi3.step st3, ?_⟩
              cases hfe : fe s1' with
              | exc e => simp only [hfe] at hr; cases hr
              | no => simp only [hfe] at hr; cases hr
              | ok r =>
                obtain ⟨m, e⟩ := r
                simp only [hfe] at hr
                by_cases hmn : m = n
                · subst hmn
                  rw [if_pos rfl] at hr
                  intro B4 y H4 fp st4 nw
                  have st24 := (st2.trans st3).trans st4
                  obtain ⟨q1, q2⟩ := keepB st24
                  obtain ⟨_, q3⟩ := keepB (st2.trans st3)
                  have rs3 := rs.step (st2.trans st3)
                  cases hrr : lcLN m tgt tc fe (wipeS ss vs) (ds.drop (i + 1)) with
                  | exc e => simp only [hrr] at hr; cases hr
                  | no => simp only [hrr] at hr; cases hr
                  | ok rest' =>
                    simp only [hrr] at hr
                    cases hr
                    have hst := st.trans st24
                    have ln : acc.length = done.length := rs.al.len1.symm
                    refine ⟨acc, q2, by rw [ln]; exact size_lt (by omega), B4, done ++ [e], acc ++ [y], fc ++ [fp], rest', ⟨hst.bb, Le.mut hst.hh hDa, Le.mut hst.bh q1, hst.dj⟩, q1, upd_same,
                      (rs3.step st4).push nw (fun a ha => by obtain ⟨xs, z⟩ := (rs3.here a ha).some; rw [z]; exact fun z => nomatch z) (st.trans (st2.trans st3)).hh (by rw [q3]; exact fun z => nomatch z), by rw [List.length_append]; simp; omega, rfl, by rw [hd, List.append_assoc]; rfl⟩
                · rw [if_neg hmn] at hr; cases hr
      · have e : i = ds.length := by omega
        rw [List.drop_eq_nil_of_le (Nat.le_of_eq e.symm)] at hr
        cases hr
        refine .inl ⟨w2 (Nat.le_of_eq e.symm), fin done B' H' acc fc st hB hH rs ?_⟩
        rw [hall, hd, List.append_nil]
    · rw [if_neg hz] at k; exact k.elim
section
variable {X : Cx} {W : WX} {elt tg iter : Expr} {ifs : List Expr} {scope : Scope} {own : List (Str × Nat)} {pos spos py : Pos} {n : Nat} {fi : EI} {g : TG} {tgt : Tgt} {tc : ET} {fe : EB}
theorem s_setLcN {i : Nat} {y : Str} (hc : X.calm = true) (hN : X.N.Nodup) (hy : X.N[i]? = some y) (hyl : X.env.scope.names.lookup y = some .local)
    (hsw : swapsWith (.ListComp elt [⟨tg, iter, ifs, 0⟩] scope pos) (some (.Name y py)) spos.line X.env = pure true) (hi : PI X tg iter (tI X.K W fi)) (ok : BlkOk X.N X.env.scope scope own) (tw : TgW X.K g tgt (own.map (·.2)))
    (hg : ∀ (s : Shared) (H : Hp) (C : Addr) (cl : List (Str × Addr)) (fp : List Addr), PG (X.blk s H scope (compEnvC scope cl C X.env) fp) tg g) (ht : ∀ (s : Shared) (H : Hp) (C : Addr) (cl : List (Str × Addr)) (fp : List Addr), PTs (X.blk s H scope (compEnvC scope cl C X.env) fp) ifs (tT X.K W0 tc))
    (he : ∀ (s : Shared) (H : Hp) (C : Addr) (cl : List (Str × Addr)) (fp : List Addr), PE (X.blk s H scope (compEnvC scope cl C X.env) fp) elt (tM X.K W0 fe)) (hs : ∀ x, foldedSetIterable iter X.env x = pure x := by intro _; rfl) :
    PS X (.Assign [.Name y py] (.ListComp elt [⟨tg, iter, ifs, 0⟩] scope pos) spos) (tS X.K W (sAsg i (eLcN n (own.map (·.2)) fi tgt tc fe))) := by
  refine ps_w (ps_setLc hc hN hy hyl hsw hi ok hg ht he hs) fun E σ H hq => ?_
  have q := asg_of hq
  exact lc_ofN tw σ H _ q
end
end Mv
namespace Mv
open PySem L2 PySem.Spec PyProof.Rows
/-- an exception has come down to the body that catches: what is known of the state then -/
structure Down (X : Cx) (ps : List (Addr × Obj)) (σ : L2.St) (H : Hp) (B : Heap) (x : Addr) (C : Value) (dd : Option Addr) (sB s : Shared) : Prop where
  own : X.env.frame = some X.env.locals
  body : Inv X ps σ H sB
  old : ∀ b o, sB.heap.get? b = some o → b ∉ frs X.stack → B.get? b = some o
  slots : sB.heap.UpToSlots s.heap
  osEq : s.os = sB.os
  bare : AllBare s.gens
  free : H x = none
  fly : HandSPX.FlyingZ B (X.env :: X.outer) x (L2N.Zn C dd) s.heap
section
variable {X : Cx} {ps : List (Addr × Obj)} {σ : L2.St} {H : Hp} {B : Heap} {x : Addr} {C : Value} {dd : Option Addr} {sB s : Shared}
theorem Down.inv (w : Down X ps σ H B x C dd sB s) : Inv X ps σ H s := w.body.landed w.old w.fly.1 w.slots w.osEq w.bare
theorem Down.to {h : Heap} (w : Down X ps σ H B x C dd sB s) (f : HandSPX.FlyingZ B (X.env :: X.outer) x (L2N.Zn C dd) h) (u : s.heap.UpToSlots h) : Down X ps σ H B x C dd sB { s with heap := h } :=
  ⟨w.own, w.body, w.old, w.slots.trans u, w.osEq, w.bare, w.free, f⟩
/-- the object itself -/
theorem Down.obj (w : Down X ps σ H B x C dd sB s) : ∃ o fs, s.heap.get? x = some o ∧ L2N.Zn C dd o ∧ o.data = .fields fs ∧ x ≠ X.env.locals ∧ x ∉ X.fs := by
  obtain ⟨o, fs, at_, kind, dat⟩ := w.fly.there
  have away : ∀ e ∈ X.env :: X.outer, e.frame ≠ some x := by
    intro e he hx
    have isFr : x ∈ frs (X.env :: X.outer) := List.mem_filterMap.mpr ⟨e, he, hx⟩
    obtain ⟨_, o2, at2, no⟩ := w.fly.2.2.1.mem isFr
    rw [at_] at at2
    injection at2 with same
    exact no fs (same ▸ dat)
  refine ⟨o, fs, at_, kind, dat, fun z => away X.env List.mem_cons_self (by rw [w.own, z]), fun z => ?_⟩
  obtain ⟨e, he, hx⟩ := List.mem_filterMap.mp z
  exact away e (List.mem_cons_of_mem _ he) hx
/-- what the clauses wish of an exception, one after the other -/
def wManyA (K : PySem.W.Frag) (Wout : WX) (D : Ends) : List (Value × Nat × (Addr → Value → Option Addr → TS)) → WX
  | [] => Wout
  | (c, i, ts) :: r => fun cls d σ H => ∃ hit, PySem.W.exmOne K cls c = some hit ∧
    (hit = true → ∀ a, H a = none → ts a cls d ⟨fun σ' H' => D.nx (σ'.set i none) H', D.rt, fun σ' H' => D.bk (σ'.set i none) H', fun σ' H' => D.ct (σ'.set i none) H'⟩ (σ.set i (some (.ref a))) H) ∧
    (hit = false → wManyA K Wout D r cls d σ H)
/-- no clause is left: it goes on its way -/
theorem Down.gone {W : WX} {R : Flow → Shared → Prop} (w : Down X ps σ H B x C dd sB s) (stk : X.stack = X.env :: X.outer) (tk : L2N.Takes X W) (q : W C dd σ H) :
    wpAny (model X.prog X.w) X.A (handleBy (.ref x) X.env []) R X.xe s := by
  obtain ⟨_, _, _, o, fs, cls, oc, tb, at_, kind, dat, one, _⟩ := id w.fly
  have out : wpAny (model X.prog X.w) X.A (setFlight (.ref x) X.env.frame) (fun _ t => wpAny (model X.prog X.w) X.A (throw (.ref x) : Sem Flow) R X.xe t) X.xe s := by
    rw [w.own]
    exact HandSPX.setFlight_upZ w.fly fun h held u => wpAny_throw (tk _ _ ⟨x, B, sB, ps, σ, H, C, dd, rfl, w.body, w.old, w.slots.trans u, .inr (.inr (stk ▸ held)), w.free, w.osEq, w.bare, q⟩)
  apply wpAny_handleBy_nil
  unfold PySem.passOn
  apply wpAny_bind
  apply wpAny_field at_ dat one
  rw [if_neg (by simp)]
  first | exact wpAny_bind out | exact wpAny_bind (wpAny_pure (wpAny_bind out))
/-- one clause -/
theorem Down.clause {y n : Str} {cv : Value} {i : Nat} {ts : Addr → Value → Option Addr → TS} {b₀ : Stmt} {rest : List Stmt} {np p2 : Pos} {hds : List ExceptHandler} {D : Ends} {hit : Bool} (w : Down X ps σ H B x C dd sB s) (hN : X.N.Nodup) (hi : X.N[i]? = some n) (loc : X.env.kindOf n = some .local) (nm : Names X y cv)
    (is : PySem.W.exmOne X.K C cv = some hit)
    (su : ∀ (o : Obj) (pn : List (Addr × Obj)), L2N.Zn C dd o → (∃ fs, o.data = .fields fs) → PSs (X.suite x ((x, o) :: pn)) (b₀ :: rest) (ts x C dd))
    (yes : hit = true → ts x C dd ⟨fun σ' H' => D.nx (σ'.set i none) H', D.rt, fun σ' H' => D.bk (σ'.set i none) H', fun σ' H' => D.ct (σ'.set i none) H'⟩ (σ.set i (some (.ref x))) H)
    (no : hit = false → wpAny (model X.prog X.w) X.A (handleBy (.ref x) X.env hds) (L2.SP X ps D) X.xe s) :
    wpAny (model X.prog X.w) X.A (handleBy (.ref x) X.env (.ExceptHandler (some (.Name y np)) (some n) (b₀ :: rest) p2 :: hds)) (L2.SP X ps D) X.xe s := by
  obtain ⟨o, fs, at_, kind, dat, aw1, aw2⟩ := w.obj
  have here := w.inv.suite at_ dat w.free aw1 aw2
  have type : PySem.W.Looks (model X.prog X.w) s.heap (typeOf (.ref x)) C := fun _ _ _ t k q => wpAny_typeOf_ref (k _ _ at_) (kind.1 ▸ q)
  have match_ := PySem.W.exm_one (M := model X.prog X.w) w.inv.kIn type is
  refine wpAny_handleBy_cons (codeAny_handlers_test ?_) (fun z => by cases z)
  have named : ∀ {Q E : Value → Shared → Prop}, Q cv s → wpAny (model X.prog X.w) (X.A.mark (some (.ref x))) (eval (.Name y np) X.env) Q E s := by
    intro Q E q
    rcases nm with ⟨g, db, m | ⟨m, v, nn⟩⟩
    · exact ld_glob (X := X.suite x ((x, o) :: (X.pn ++ ps))) here g m q db
    · exact ld_blt (X := X.suite x ((x, o) :: (X.pn ++ ps))) here g m v q nn db
  apply named
  apply match_.here
  cases hit with
  | false => exact no rfl
  | true =>
    apply codeAny_handlers_suite_as
    refine HandSPX.lands_againZ w.fly fun h f u => ?_
    have w2 := w.to f u
    obtain ⟨o2, fs2, at2, kind2, dat2, aw3, aw4⟩ := w2.obj
    refine L2.store_ok (X := X.suite x ((x, o2) :: (X.pn ++ ps))) (v := .ref x) (w2.inv.suite at2 dat2 w2.free aw3 aw4) hN hi (.inl loc) rfl (fun t it => ?_) (.inr loc)
    have bye : ∀ {σ9 : L2.St} {H9 : Hp} {t9 : Shared} {Q : Shared → Prop}, Inv (X.suite x ((x, o2) :: (X.pn ++ ps))) [] σ9 H9 t9 → (∀ t8, Inv X ps (σ9.set i none) H9 t8 → Q t8) →
        wpAny (model X.prog X.w) X.A (do bindName X.env n .none; unbindBehindTheSuite X.env n p2) (fun _ t8 => Q t8) X.xe t9 := fun it9 hq => gone_ok (it9.unsuite w.body.ok) hN hi loc hq
    refine wpAny_mono ((su o2 (X.pn ++ ps) kind2 ⟨fs2, dat2⟩).run [] t _ H _ it (yes rfl)) (fun f9 t9 end9 => ?_) (fun _ _ z => z.elim)
    cases f9 with
    | ret u9 => obtain ⟨v9, σ9, H9, it9, rv, q9⟩ := end9; exact bye it9 fun _ it8 => ⟨v9, _, _, it8, rv, q9⟩
    | next => obtain ⟨σ9, H9, it9, q9⟩ := end9; exact bye it9 fun _ it8 => ⟨_, H9, it8, q9⟩
    | brk => obtain ⟨σ9, H9, it9, q9⟩ := end9; exact bye it9 fun _ it8 => ⟨_, H9, it8, q9⟩
    | cont => obtain ⟨σ9, H9, it9, q9⟩ := end9; exact bye it9 fun _ it8 => ⟨_, H9, it8, q9⟩
end
inductive HdsA (X : Cx) : List ExceptHandler → List (Value × Nat × (Addr → Value → Option Addr → TS)) → Prop
  | nil : HdsA X [] []
  | cons {y n : Str} {cv : Value} {i : Nat} {ts : Addr → Value → Option Addr → TS} {b₀ : Stmt} {rest : List Stmt} {np p2 : Pos} {hds : List ExceptHandler} {l : List (Value × Nat × (Addr → Value → Option Addr → TS))} (hi : X.N[i]? = some n) (loc : X.env.kindOf n = some .local) (nm : Names X y cv)
      (su : ∀ (x : Addr) (o : Obj) (C : Value) (dd : Option Addr) (pn : List (Addr × Obj)), L2N.Zn C dd o → (∃ fs, o.data = .fields fs) → PSs (X.suite x ((x, o) :: pn)) (b₀ :: rest) (ts x C dd)) (r : HdsA X hds l) :
      HdsA X (.ExceptHandler (some (.Name y np)) (some n) (b₀ :: rest) p2 :: hds) ((cv, i, ts) :: l)
theorem HdsA.run {X : Cx} {ps : List (Addr × Obj)} {σ : L2.St} {H : Hp} {B : Heap} {x : Addr} {C : Value} {dd : Option Addr} {sB s : Shared} {W : WX} {D : Ends} (w : Down X ps σ H B x C dd sB s) (stk : X.stack = X.env :: X.outer) (hN : X.N.Nodup) (tk : L2N.Takes X W) {hds : List ExceptHandler} {l : List (Value × Nat × (Addr → Value → Option Addr → TS))}
    (h : HdsA X hds l) : wManyA X.K W D l C dd σ H → wpAny (model X.prog X.w) X.A (handleBy (.ref x) X.env hds) (L2.SP X ps D) X.xe s := by
  induction h with
  | nil => exact fun q => w.gone stk tk q
  | cons hi loc nm su _ ih =>
    rintro ⟨hit, is, yes, no⟩
    exact w.clause hN hi loc nm is (fun o pn => su x o C dd pn) (fun z => yes z x w.free) fun z => ih (no z)
end Mv
namespace Mv
open PySem L2
open Classical
end Mv
namespace Mv
open PySem L2
open Classical
/-! ### a maker that may raise -/
def tMakeS (C : Addr) (sp : Sp) (E : L2.St → XK) (t : TA) : TE := fun σ H Q => t σ H fun vs H1 => ∀ x dx, H1 x = none → H1 dx = none → dx ≠ x →
  sp (.ref x :: vs) (upd (upd H1 dx (.own x)) x (.ins C dx [])) (fun v H2 => v = .non ∧ Q (.ref x) H2) (E σ)
/-! ### answers that stand for themselves: nothing in them that may be changed, but for what is new -/
end Mv
namespace Mv
open PySem L2 PySem.Spec PyProof.Rows
/-! ### text * int -/
end Mv
namespace Mv
open PySem L2
end Mv
namespace Mv
open PySem L2 PySem.Spec PyProof.Rows
/-! ### tuple * int -/
end Mv
namespace Mv
open PySem L2
end Mv
namespace Mv
open PySem L2
/-! ### xs.index(y), truth values -/
end Mv
namespace Mv
open PySem L2
/-! ### calls with keywords, calls that leave a keyword out -/
section
variable {X : Cx} {W : WX} {CX : CXT} {e : Expr} {es : List Expr} {kws : List Keyword} {f : EB} {g1 g2 : EA} {nm : Option Str} {kpos pos p : Pos} {x : Str} {k n j : Nat} {fa : Addr} {fd : FuncData} {ps ks : List Str} {sp : Sp} {m : FM}
theorem pk_w {t t' : TA} (h : PK X kws t) (w : ∀ σ H Q, t' σ H Q → t σ H Q) : PK X kws t' := ⟨fun q pins s σ H Q it z => h.run q pins s σ H Q it (w σ H Q z)⟩
abbrev KB (K : PySem.W.Frag) (fd : FuncData) (ps : List Str) (n : Nat) (ks : List Str) : Prop := KBn K fd ps n ks (fun us ws => us ++ ws) (fun vs zs => vs ++ zs)
end
theorem reps_n {K : PySem.W.Frag} {B : Hp} : Reps K B [.non] [V.non] := reps_cons rep_non reps_nil
/-! ### min, max, sum of a list of whole numbers -/
def mostI (ns : List Int) : Int := ns.foldl (fun a b => if a < b then b else a) (ns.headD 0)
theorem most_fold : ∀ (ns : List Int) (a : Int), (ns.foldl (fun a b => if a < b then b else a) a ∈ a :: ns) ∧ ∀ y ∈ a :: ns, y ≤ ns.foldl (fun a b => if a < b then b else a) a
  | [], a => ⟨by simp, fun y hy => by simp at hy; subst hy; exact Int.le_refl _⟩
  | b :: ns, a => by
    rw [List.foldl_cons]
    by_cases q : a < b
    · rw [if_pos q]
      obtain ⟨h1, h2⟩ := most_fold ns b
      have h3 := h2 _ List.mem_cons_self
      refine ⟨List.mem_cons_of_mem _ h1, fun y hy => ?_⟩
      cases hy with
      | head => omega
      | tail _ hy => exact h2 y hy
    · rw [if_neg q]
      obtain ⟨h1, h2⟩ := most_fold ns a
      have h3 := h2 _ List.mem_cons_self
      refine ⟨?_, fun y hy => ?_⟩
      · obtain h | h := List.mem_cons.mp h1
        · rw [h]
          exact List.mem_cons_self
        · exact List.mem_cons_of_mem _ (List.mem_cons_of_mem _ h)
      · cases hy with
        | head => exact h3
        | tail _ hy => cases hy with
          | head => omega
          | tail _ hy => exact h2 y (List.mem_cons_of_mem _ hy)
theorem most_at {ns : List Int} (h : ns ≠ []) : mostI ns ∈ ns ∧ ∀ y ∈ ns, y ≤ mostI ns := by
  cases ns with
  | nil => exact absurd rfl h
  | cons a l =>
    obtain ⟨h1, h2⟩ := most_fold (a :: l) a
    refine ⟨?_, fun y hy => h2 y (List.mem_cons_of_mem _ hy)⟩
    rcases (List.mem_cons.mp h1) with q | q
    · show List.foldl _ a (a :: l) ∈ _
      rw [q]; exact List.mem_cons_self
    · exact q
def gMax1 : List D → Option D
  | [.lst ds] => (match intsOf ds with
    | some (n :: ns) => some (.int (mostI (n :: ns)))
    | _ => none)
  | _ => none
section
variable {X : Cx} {K : PySem.W.Frag}
theorem ok_max1 : ClOk X.K (rMax X.K) gMax1 := by
  intro H ds d vs Q rs e k
  unfold gMax1 at e
  split at e
  · rename_i es
    split at e
    · rename_i n ns hi
      cases e
      have e1 := intsOf_eq hi
      subst e1
      rw [Reps] at rs
      obtain ⟨v, us, rfl, r, rs⟩ := rs
      rw [Reps] at rs
      subst rs
      rw [Rep] at r
      obtain ⟨p, xs, rfl, hp, rx⟩ := r
      have e2 := reps_ints rx
      subst e2
      refine ⟨p, n :: ns, rfl, SqL.of hp, by simp, fun m hm hl => ?_⟩
      obtain ⟨l1, l2⟩ := most_at (ns := n :: ns) (by simp)
      have em : m = mostI (n :: ns) := Int.le_antisymm (l2 _ hm) (hl _ l1)
      rw [em]
      exact k _ fun _ => rep_int
    · cases e
  · cases e
variable {W : WX} {e : Expr} {pos p : Pos} {g1 : EA}
theorem b_max1 (hc : X.calm = true) (hgl : Gl X "max") (hm : X.mg "max" = none) (ha : PA X [e] (tAh X.K W g1)) (he : starEach [e] X.env = (false, eval e X.env) :: starEach [] X.env := by rfl) (hpl : (backTo pos (starEach [] X.env)).any (·.1) = false := by rfl) :
    PE X (.Call (.Name "max" p) [e] [] pos) (tB X.K W (eCall gMax1 g1)) := b_callB (cr_max hc) ok_max1 hgl hm (by decide +kernel) ha (by decide) (by decide) he hpl
end
end Mv
namespace Mv
open PySem L2
open Classical
/-! ### a loop over a list that a slot owns and that stays as it is -/
end Mv
namespace Mv
open PySem L2
/-! ### for x in o, where o's own __iter__ walks a tuple that o has -/
end Mv
namespace Mv
open PySem L2
/-! ### return (x, ..), x an owned list -/
/-! ### t[j].append(..), t a tuple that owns its lists -/
end Mv
namespace Mv
open PySem L2
/-! ### tuple(range(n)), xs[::-1], enumerate(xs) -/
/-! ### makers with a keyword, or one that is left out -/
end Mv
namespace Mv
open PySem L2 PyProof.Rows
/-! ### sorted(set(xs)), xs a list of whole numbers -/
abbrev bareSet (w : World) : Obj := { cls := .type "set", dict := none, data := .set #[] 0 (.fresh 0 0 (!w.params.followText "set-order")) }
section
variable {P : Program} {w : World} {A : Around} {E : Value → Shared → Prop} {s s1 : Shared} {S l : Addr} {items : Array Value} {ns : List Int} {Q : Value → Shared → Prop}
/-- what has become of the set: the numbers of the list -/
def Filled (w : World) (s1 : Shared) (S : Addr) (ns : List Int) (s2 : Shared) : Prop :=
  ∃ h' tk c, s2 = { s1 with heap := h', toks := tk } ∧ (SetR w h' S (fun j => decide (j ∈ ns)) c ∧ c ≤ ns.length) ∧ ∀ b o, b ≠ S → s1.heap.get? b = some o → h'.get? b = some o
theorem init_fills (noH : A.handled = none) (at_ : s1.heap.get? S = some (bareSet w)) (isL : s1.heap.IsList l items) (apart : l ≠ S) (nums : IntsAre items.toList ns) (few : ns.length + 1 < scanBound) :
    codeAny (model P w) A (.call (.builtin "set.__init__") ⟨[.ref S, .ref l], []⟩) (wants (fun r s2 => r = .none ∧ Filled w s1 S ns s2) E) s1 := by
  have ty : s1.TypeIs (.ref S) "set" := ⟨_, at_, rfl⟩
  have size : items.size = ns.length := Array.length_toList.symm.trans (IntsAre.length nums)
  have pl := F.called_set.init.plain
  refine codeAny_call_builtin pl F.entry_set_init ?_
  refine check_set_init_1 ty ?_
  obtain ⟨⟨oc, od, dat, osl⟩, hol, hc, nl, hd⟩ := id isL
  obtain rfl : oc = .type "list" := hc
  obtain rfl : dat = .seq items nl := hd
  have f1 := F.sub_list_set
  have f2 := F.sub_list_frozenset
  have f3 : (Value.type "list" == .type "dict") = false := by decide
  unfold Builtin.«set.__init__»
  unfold noKeywords
  unfold Builtin.Frozenset.updateFrom
  generalize hw : pyIter = walker
  wp_walk
  subst hw
  apply wpAny_pyIter_list isL
  apply wpAny_bind
  apply wpAny_runValue
  have lS : S < s1.heap.objs.size := Heap.lt_size at_
  have ll : l < s1.heap.objs.size := Heap.lt_size hol
  have one : ∀ (i : Nat) (v : Value), items[i]? = some v → ∃ k t, ns[i]? = some k ∧ v = .int k t := by
    intro i v hv
    obtain ⟨k, t, e1, e2⟩ : ∃ k t, ns[i]? = some k ∧ v = .int k t := by
      have lt : i < ns.length := size ▸ (Array.getElem?_eq_some_iff.mp hv).1
      have ⟨t, e⟩ := IntsAre.int_at nums i v ((Array.getElem?_toList ..).trans hv)
      have g : ns[i]? = some (ns.getD i 0) := by simp [List.getD_eq_getElem?_getD, List.getElem?_eq_getElem lt]
      exact ⟨_, t, g, e⟩
    exact ⟨k, t, e1, e2⟩
  have out2 : S ∉ [s1.heap.objs.size, l] := by
    intro z
    obtain z | z := List.mem_cons.mp z
    · exact Nat.ne_of_lt lS z
    · exact apart (List.mem_singleton.mp z).symm
  have calm3 : A.in1.in1.handled = none := by simp [noH]
  have W := Walks.list (prog := P) (w := w) calm3 s1.heap.objs.size l (Nat.ne_of_lt ll) items
  refine set_update_ints W.toS S out2 ns size few one _ 0 _ rfl (Nat.zero_le _) ⟨⟨_, Heap.get?_push_size _ rfl, rfl, rfl⟩, isL.push _⟩ ⟨0, Nat.le_refl 0, setR_new_at (Heap.get?_push_of_some _ at_)⟩ ?_
  intro s' c moved hc full
  obtain ⟨h', gs, dr, tk, os⟩ := s'
  obtain rfl : gs = s1.gens := moved.gens
  obtain rfl : dr = s1.drawn := moved.drawn
  obtain rfl : os = s1.os := moved.os
  change wpAny _ _ _ _ _ _
  apply wpAny_pure
  change wpAny _ _ (ret Value.none) _ _ _
  refine wpAny_pure ⟨rfl, h', tk, c, rfl, ⟨full, size ▸ hc⟩, fun b o nb e => moved.heap b o ?_ (Heap.get?_push_of_some _ e)⟩
  have lb : b < s1.heap.objs.size := Heap.lt_size e
  intro z
  obtain z | z := List.mem_cons.mp z
  · exact nb z
  · exact Nat.ne_of_lt lb (List.mem_singleton.mp z)
theorem set_of_list (noH : A.handled = none) (isL : s.heap.IsList l items) (nums : IntsAre items.toList ns) (few : ns.length + 1 < scanBound)
    (fin : ∀ h' tk c, SetR w h' s.heap.objs.size (fun j => decide (j ∈ ns)) c → c ≤ ns.length → (∀ b o, s.heap.get? b = some o → h'.get? b = some o) → Q (.ref s.heap.objs.size) { s with heap := h', toks := tk }) :
    wpAny (model P w) A (call (.type "set") [Value.ref l]) Q E s := by
  have ⟨c0, tl, mro⟩ := F.called_set.mro
  have f1 := F.called_set.made
  have f2 := F.called_set.sub
  have f3 := F.called_set.notType
  have f4 := F.called_set.canCreate
  have f5 := F.typeCall_set_1 (.ref l)
  apply wpAny_call
  apply codeAny_of_tree
  change wpAny _ _ (callAny (.type "set") _) _ _ _
  refine wpAny_pure ⟨?_, ?_⟩
  · exact Code.quiet_builtin _ (by decide +kernel)
  apply codeAny_builtin F.entry_type_call
  rw [Around.under_plain (weight_type_call_type "set" [Value.ref l] []) rfl]
  repeat any_goals first | assumption | wp_step
  refine codeAny_mono (code_set_led1 (.ref l) (E := E) (Q₁ := fun u s1 => u = .ref s.heap.objs.size ∧ s1 = { s with heap := s.heap.push (bareSet w) }) ⟨rfl, rfl⟩) ?_
  rintro (er | (_ | _ | _ | obj)) s1 hr
  · exact hr
  · exact hr.elim
  · exact hr.elim
  · exact hr.elim
  obtain ⟨rfl, rfl⟩ := hr
  have at_ : (s.heap.push (bareSet w)).get? s.heap.objs.size = some (bareSet w) := Heap.get?_push_size _ rfl
  have ty : Shared.TypeIs { s with heap := s.heap.push (bareSet w) } (.ref s.heap.objs.size) "set" := ⟨_, at_, rfl⟩
  have f6 := F.called_set.init.lookup
  have f7 := F.called_set.init.bind (.ref s.heap.objs.size)
  have ll : l < s.heap.objs.size := by
    obtain ⟨o, ho, _⟩ := isL
    exact Heap.lt_size ho
  repeat any_goals first | assumption | wp_step
  refine codeAny_mono (init_fills (s1 := { s with heap := s.heap.push (bareSet w) }) (E := E) (by simp [noH]) at_ (isL.push _) (Nat.ne_of_lt ll) nums few) ?_
  rintro (er | (_ | _ | _ | r)) s2 end_
  · exact end_
  · exact end_.elim
  · exact end_.elim
  · exact end_.elim
  obtain ⟨rfl, h', tk, c, rfl, ⟨full, hc⟩, keep⟩ := end_
  repeat any_goals first | assumption | wp_step
  refine fin h' tk c full hc fun b o e => keep b o (fun z => ?_) (Heap.get?_push_of_some _ e)
  have := Heap.lt_size e
  rw [z] at this
  exact Nat.lt_irrefl _ this
end
/-- the numbers of a list, each once, ascending -/
def putI (x : Int) : List Int → List Int
  | [] => [x]
  | y :: ys => if x < y then x :: y :: ys else if x = y then y :: ys else y :: putI x ys
def distI (ns : List Int) : List Int := ns.foldr putI []
theorem putI_mem (x k : Int) : ∀ ys : List Int, k ∈ putI x ys ↔ k = x ∨ k ∈ ys
  | [] => by simp [putI]
  | y :: ys => by
    unfold putI
    split
    · simp
    · split
      · rename_i h; subst h; simp
      · rw [List.mem_cons, putI_mem x k ys, List.mem_cons]
        constructor
        · rintro (h | h | h) <;> simp [h]
        · rintro (h | h | h) <;> simp [h]
theorem putI_up (x : Int) : ∀ ys : List Int, ys.Pairwise (· < ·) → (putI x ys).Pairwise (· < ·)
  | [], _ => by simp [putI]
  | y :: ys, h => by
    rcases List.pairwise_cons.mp h with ⟨h1, h2⟩
    unfold putI
    split
    · rename_i hx
      refine List.pairwise_cons.mpr ⟨fun z hz => ?_, h⟩
      rcases List.mem_cons.mp hz with e | e
      · omega
      · have := h1 z e; omega
    · split
      · exact h
      · refine List.pairwise_cons.mpr ⟨fun z hz => ?_, putI_up x ys h2⟩
        rcases (putI_mem x z ys).mp hz with e | e
        · omega
        · exact h1 z e
theorem distI_mem (k : Int) : ∀ ns : List Int, k ∈ distI ns ↔ k ∈ ns
  | [] => by simp [distI]
  | n :: ns => by
    show k ∈ putI n (distI ns) ↔ _
    rw [putI_mem, distI_mem k ns, List.mem_cons]
theorem distI_up : ∀ ns : List Int, (distI ns).Pairwise (· < ·)
  | [] => List.Pairwise.nil
  | n :: ns => putI_up n _ (distI_up ns)
theorem same_up : ∀ {xs ys : List Int}, xs.Pairwise (· < ·) → ys.Pairwise (· < ·) → (∀ k, k ∈ xs ↔ k ∈ ys) → xs = ys
  | [], [], _, _, _ => rfl
  | [], y :: ys, _, _, h => absurd ((h y).mpr List.mem_cons_self) (by simp)
  | x :: xs, [], _, _, h => absurd ((h x).mp List.mem_cons_self) (by simp)
  | x :: xs, y :: ys, h1, h2, h => by
    obtain ⟨a1, a2⟩ := List.pairwise_cons.mp h1
    obtain ⟨b1, b2⟩ := List.pairwise_cons.mp h2
    have e : x = y := by
      rcases List.mem_cons.mp ((h x).mp List.mem_cons_self) with q | q
      · exact q
      · rcases List.mem_cons.mp ((h y).mpr List.mem_cons_self) with r | r
        · exact r.symm
        · have q1 := b1 x q
          have q2 := a1 y r
          omega
    subst e
    congr 1
    refine same_up a2 b2 fun k => ⟨fun hk => ?_, fun hk => ?_⟩
    · rcases List.mem_cons.mp ((h k).mp (List.mem_cons_of_mem _ hk)) with q | q
      · have := a1 k hk; omega
      · exact q
    · rcases List.mem_cons.mp ((h k).mpr (List.mem_cons_of_mem _ hk)) with q | q
      · have := b1 k hk; omega
      · exact q
theorem setR_count {w : World} {h : Heap} {a : Addr} {ns : List Int} {n : Nat} (R : SetR w h a (fun j => decide (j ∈ ns)) n) : n = (distI ns).length := by
  rcases R with ⟨o, es, ep, t, ho, hex, hd, g, nd, hm, hb, hf, hn, hr, hl⟩
  have nd2 : (distI ns).Nodup := (distI_up ns).imp fun {a b} h => Int.ne_of_lt h
  have p : (es.toList.map keyOf).Perm (distI ns) := (List.perm_ext_iff_of_nodup nd nd2).mpr fun k => by
    rw [← hm k, distI_mem, decide_eq_true_eq]
  have e := p.length_eq
  rw [List.length_map, Array.length_toList] at e
  omega
theorem putI_len (x : Int) : ∀ ys : List Int, (putI x ys).length ≤ ys.length + 1
  | [] => Nat.le_refl _
  | y :: ys => by
    unfold putI
    split
    · simp
    · split
      · simp
      · have := putI_len x ys
        simp only [List.length_cons]
        omega
theorem distI_len : ∀ ns : List Int, (distI ns).length ≤ ns.length
  | [] => Nat.le_refl _
  | n :: ns => by
    have h1 := putI_len n (distI ns)
    have h2 := distI_len ns
    show (putI n (distI ns)).length ≤ _
    rw [List.length_cons]
    omega
def tDist (K : PySem.W.Frag) (ta : TE) : TE := fun σ H Q => ta σ H fun x H1 => ∃ l ns, x = .ref l ∧ SqL K H1 l (ns.map V.int) ∧ ((distI ns).length < 64 ∧ ns.length ≤ 4000) ∧ ∀ p, H1 p = none → Q (.ref p) (upd H1 p (.lst ((distI ns).map V.int)))
section
variable {X : Cx} {a : Expr} {ta : TE} {p p2 q pos : Pos} {W : WX} {f : EB}
theorem pe_dist (hc : X.calm = true) (hg : Gl X "sorted") (hm : X.mg "sorted" = none) (hg2 : Gl X "set") (hm2 : X.mg "set" = none) (ha : PE X a ta) (na : starEach [a] X.env = (false, eval a X.env) :: starEach [] X.env := by rfl) :
    PE X (.Call (.Name "sorted" p) [.Call (.Name "set" p2) [a] [] q] [] pos) (tDist X.K ta) := by
  constructor
  intro pins s σ H R it want
  have noH := it.ok.hd hc
  refine Call_ ?_
  apply ld_blt it hg hm (show bootBuiltins "sorted" = some (.builtin "sorted") by decide +kernel) _ (by decide) (by decide)
  apply PyProof.Rows.callWith_builtin1 _ rfl rfl
  apply PyProof.Rows.args_cons _ rfl
  refine Call_ ?_
  apply ld_blt it hg2 hm2 PyProof.Rows.boot_set _ (by decide) (by decide)
  apply PyProof.Rows.callWith_type1 _ na rfl
  apply PyProof.Rows.args_cons _ na
  refine thn (ha.run pins s σ H _ it want) ?_
  rintro v s1 ⟨x, H1, it1, same, l, ns, rfl, hq, few, give⟩
  obtain rfl : v = .ref l := same
  obtain ⟨its, rv, isL, hz⟩ := it1.list hq
  apply PyProof.Rows.args_nil
  have nums : PyProof.Rows.IntsAre its.toArray.toList ns := ints_of_vals rv
  refine set_of_list noH isL.isList nums (by unfold scanBound; omega) fun h' tk c full hc keep => ?_
  apply PyProof.Rows.args_nil
  have it2 : Inv X pins σ H1 { s1 with heap := h', toks := tk } := it1.kept keep
  have le : c < 64 := by rw [setR_count full]; exact few.1
  refine sorted_set full noH le fun s' at' out cap ks k g o fresh new io up mem len => ?_
  have none' : H1 at' = none := it2.hok.fresh fresh
  obtain rfl : ks = distI ns := same_up up (distI_up ns) fun k => by rw [mem k, distI_mem, decide_eq_true_eq]
  have small : ((distI ns).map V.int).length ≤ sizeLine := by
    rw [List.length_map, len, sizeLine_eq]
    omega
  obtain ⟨h2, gs, dr, tk2, os⟩ := s'
  obtain rfl : gs = _ := g
  obtain rfl : os = _ := o
  refine ⟨.ref at', _, ?_, rfl, give at' none'⟩
  exact it2.call (ch := []) (Un.laid k fresh none') (it2.hok.laid k fresh ⟨small, out.toList, cap, vals_of_ints io, new⟩) it2.bare fun _ z => nomatch z
/-- sorted(set(xs)) -/
def eDist (f : EB) : EB := fun ss => match f ss with
  | .ok (n, .lst ds) => if n ≤ 1 then (match intsOf ds with
    | some ns => if (distI ns).length < 64 ∧ ns.length ≤ 4000 then .ok (1, .lst ((distI ns).map .int)) else .no
    | none => .no) else .no
  | .ok (_, _) => .no
  | .exc e => .exc e
  | .no => .no
theorem m_dist (hc : X.calm = true) (hg : Gl X "sorted") (hm : X.mg "sorted" = none) (hg2 : Gl X "set") (hm2 : X.mg "set" = none) (ha : PE X a (tB X.K W f)) (na : starEach [a] X.env = (false, eval a X.env) :: starEach [] X.env := by rfl) :
    PE X (.Call (.Name "sorted" p) [.Call (.Name "set" p2) [a] [] q] [] pos) (tM X.K W (eDist f)) := by
  refine pe_w (pe_dist hc hg hm hg2 hm2 ha na) fun σ H Q hq => ?_
  obtain ⟨B, ss, fps, pi, k⟩ := hq
  refine ⟨B, ss, fps, pi, ?_⟩
  unfold eDist at k
  cases h1 : f ss with
  | ok r =>
    obtain ⟨n, d⟩ := r
    cases d <;> first | (simp only [h1] at k; done) | skip
    rename_i ds
    simp only [h1] at k
    by_cases hn : n ≤ 1
    · rw [if_pos hn] at k
      cases hi : intsOf ds with
      | none => simp only [hi] at k
      | some ns =>
        simp only [hi] at k
        have e1 := intsOf_eq hi
        subst e1
        by_cases hl : (distI ns).length < 64 ∧ ns.length ≤ 4000
        · rw [if_pos hl] at k
          intro B1 v H1 s1 bw
          obtain ⟨q, xs, rfl, hp, rs⟩ := bw.items s1.bh hn
          have e2 := reps_ints rs
          subst e2
          refine ⟨q, ns, rfl, SqL.of hp, hl, fun q hq => ?_⟩
          obtain ⟨q1, q2⟩ := new_list s1 (reps_of_ints (distI ns)) hq
          exact k _ _ _ _ q1 q2
        · rw [if_neg hl] at k; exact k.elim
    · rw [if_neg hn] at k; exact k.elim
  | exc e => simp only [h1] at k; exact k
  | no => simp only [h1] at k
end
end Mv
namespace Mv
open PySem L2
/-! ### the truth of lists, tuples, numbers -/
end Mv
namespace Mv
open PySem L2
/-! ### a list of frozen items that a slot owns becomes another one; insert -/
end Mv
namespace Mv
open PySem L2
/-! ### methods of tuples: t.index(y) -/
end Mv
namespace Mv
open PySem L2
/-! ### a comprehension in a comprehension, which reads the outer one's names -/
end Mv
namespace Mv
open PySem L2
/-! ### sorted(xs), xs a list of whole numbers -/
end Mv
namespace Mv
open PySem L2
/-! ### lists that change: remove, append(pop()), xs[k] += e; lists that pass from name to name -/
section
variable {K : PySem.W.Frag} {B0 H0 B H : Hp} {σ : L2.St} {ss : En} {fps : List (List Addr)}
/-- what slot j owns is taken out of it -/
theorem SI.take (h : SI K B0 H0 B σ H ss fps) {j n : Nat} {d : D} (hs : ss[j]? = some (.v n d)) :
    ∃ v fp, σ[j]? = some (some v) ∧ Ow K B H n d v fp ∧ fp.Nodup ∧ (∀ a ∈ fp, B a = none ∧ H0 a = none) ∧ SI K B0 H0 B σ H (ss.set j .un) (fps.set j []) ∧ ∀ a ∈ fp, a ∉ (fps.set j []).flatten := by
  obtain ⟨o, fp, h1, h2, v, h3, ow⟩ := h.pi.al.get hs
  subst h3
  have hm := List.mem_of_getElem? h2
  have q := h.put j (s := .un) (o := some v) rfl
  rw [set_same h1] at q
  refine ⟨v, fp, h1, ow, nd_mem h.pi.nd hm, fun a ha => ⟨h.pi.fr a (mem_fl hm ha), h.fr a (mem_fl hm ha)⟩, q, fun a ha z => ?_⟩
  obtain ⟨c, hc, hac⟩ := List.mem_flatten.mp z
  obtain ⟨k, hk⟩ := List.mem_iff_getElem?.mp hc
  rw [List.getElem?_set] at hk
  by_cases e : j = k
  · subst e
    rw [if_pos rfl] at hk
    split at hk
    · cases hk; cases hac
    · cases hk
  · rw [if_neg e] at hk
    exact apart_of h.pi.nd h2 hk (fun z => e z.symm) a hac ha
end
end Mv
namespace Mv
open PySem L2
/-! ### for x in reversed(xs); texts in a list; xs[k] += e -/
/-! ### methods with keywords -/
end Mv
namespace Mv
open PySem L2
/-! ### methods with a keyword, or one that is left out -/
end Mv
/-! min(xs, default=None) -/
namespace Mv
open PySem L2
end Mv
/-! [e for x in xs for y in ys] -/
namespace Mv
open PySem L2
/-- the list Da under way -/
structure Way (K : PySem.W.Frag) (B1 H1 : Hp) (Da : Addr) (B' H' : Hp) (done : List D) (acc : List V) : Prop where
  st : Stp B1 H1 B' H'
  none : B' Da = none
  cell : H' Da = some (.lst acc)
  reps : Reps K B' done acc
theorem Way.put {K : PySem.W.Frag} {B1 H1 B' H' : Hp} {Da : Addr} {done : List D} {acc : List V} (w : Way K B1 H1 Da B' H' done acc) (free : H1 Da = Option.none) {e : D} {y : V} (r : Rep K B' e y) : Way K B1 H1 Da B' (upd H' Da (.lst (acc ++ [y]))) (done ++ [e]) (acc ++ [y]) :=
  ⟨⟨w.st.bb, Le.mut w.st.hh free, Le.mut w.st.bh w.none, w.st.dj⟩, w.none, upd_same, w.reps.append (reps_cons r reps_nil)⟩
end Mv
/-! return (e, x), x an owned list -/
namespace Mv
open PySem L2
end Mv
/-! C(e, .., k = v): a maker with keyword-only parameters that may raise -/
namespace Mv
open PySem L2
end Mv
/-! for x in xs: body; xs a list of things that a slot owns; each is lent to the body -/
namespace Mv
open PySem L2
open Classical
section
variable {K : PySem.W.Frag} {B0 H0 B B' H H' : Hp} {σ σ' : L2.St} {ss s' : En} {fps fps' : List (List Addr)}
/-- a part of what is owned, as the start of a body of its own -/
theorem SI.sub (h : SI K B0 H0 B σ H ss fps) {ss2 : En} {fps2 : List (List Addr)} (al : All3 (slotOk K B H) ss2 σ fps2) (nd : fps2.flatten.Nodup) (sub : ∀ x ∈ fps2.flatten, x ∈ fps.flatten) : SI K B (hideH H fps2.flatten) B σ H ss2 fps2 :=
  ⟨⟨h.pi.bh, al, nd, fun x hx => h.pi.fr x (sub x hx)⟩, ⟨Le.refl _, hide_le, h.pi.bh, fun a z _ => z⟩, fun x hx => hide_in hx⟩
theorem SI.drop (h : SI K B0 H0 B σ H ss fps) (i : Nat) : SI K B0 H0 B σ H (ss.set i .un) (fps.set i []) := by
  have mem : ∀ x ∈ (fps.set i []).flatten, x ∈ fps.flatten := fun x hx => by
    rcases mem_set_fl hx with z | z
    · exact z
    · cases z
  refine ⟨⟨h.pi.bh, ?_, nodup_set h.pi.nd List.nodup_nil i (fun _ _ => True.intro) (fun a ha => nomatch ha), fun a ha => h.pi.fr a (mem a ha)⟩, h.st, fun a ha => h.fr a (mem a ha)⟩
  by_cases hi : i < σ.length
  · have z := h.pi.al.set (a := Sl.un) (b := σ[i]) (c := []) rfl i
    rw [set_same (List.getElem?_eq_getElem hi)] at z
    exact z
  · have hl : ss.length ≤ i := by rw [h.pi.al.len1]; omega
    have hf : fps.length ≤ i := by rw [← h.pi.al.len2]; exact hl
    rw [List.set_eq_of_length_le hl, List.set_eq_of_length_le hf]
    exact h.pi.al
theorem mem_ix {c : List Addr} {cs : List (List Addr)} (h : c ∈ cs) : ∃ m : Nat, cs[m]? = some c := by
  obtain ⟨m, hm, e⟩ := List.mem_iff_getElem.mp h
  exact ⟨m, by rw [List.getElem?_eq_getElem hm, e]⟩
theorem set_ix {cs : List (List Addr)} {j m : Nat} {c x : List Addr} (h : (cs.set j x)[m]? = some c) : (m = j ∧ c = x) ∨ (m ≠ j ∧ cs[m]? = some c) := by
  by_cases e : m = j
  · subst e
    obtain ⟨hm, _⟩ := List.getElem?_eq_some_iff.mp h
    rw [List.getElem?_set_self (by simpa using hm)] at h
    exact .inl ⟨rfl, (Option.some.inj h).symm⟩
  · rw [List.getElem?_set_ne (fun z => e z.symm)] at h
    exact .inr ⟨e, h⟩
end
end Mv
/-! a call with borrowed arguments that tells an object whose fields stand for themselves; an alias of an item of an owned list, read in one call -/
namespace Mv
open PySem L2
mutual
/-- lists, tuples, flat things -/
def fz : D → Bool
  | .non => true | .bl _ => true | .int _ => true | .str _ => true | .exo _ => true
  | .lst ds => fzs ds
  | .tup ds => fzs ds
  | .rdl _ => false | .rdt _ => false | .ins _ _ => false | .exd _ _ _ => false | .ob _ _ => false | .dk _ => false | .dt _ => false
def fzs : List D → Bool
  | [] => true
  | d :: ds => fz d && fzs ds
end
def objs (B H : Hp) : Hp := fun a => match B a with
  | some o => some o
  | none => match H a with
    | some (.ins C dx fs) => some (.ins C dx fs)
    | some (.frz o (.tup xs)) => some (.frz o (.tup xs))
    | _ => none
end Mv
/-! x[k] = e at a slot with a known reference; a display of fresh owned things -/
namespace Mv
open PySem L2
/-! C(..), a keyword-only parameter left out, C's __init__ may raise -/
section
variable {X : Cx} {CX : CXT} {k : Nat} {f C : Addr} {fd : FuncData} {ps : List Str} {sp : Sp} {x : Str} {p pos : Pos} {e : Expr} {es : List Expr} {dvs : List V} {ds : List Value}
theorem run_makeSD {E : XK} {pins : List (Addr × Obj)} {σ : L2.St} {H : Hp} {s : Shared} {Q : VK} {us : List Value} {vs : List V} (M : Mk X.K C f) (F : FnOk X.prog X.w X.K X.mg X.base CX k f fd ps sp) (hr : Room (k + 1) X.A) (hb : Binds X.K fd ps ds) (hd : Vals dvs ds)
    (out : PassesAt CX X σ E) (it : Inv X pins σ H s) (r : Vals vs us)
    (want : ∀ a dx, H a = none → H dx = none → dx ≠ a → sp (.ref a :: (vs ++ dvs)) (upd (upd H dx (.own a)) a (.ins C dx [])) (fun v H2 => v = .non ∧ Q (.ref a) H2) E) :
    wpAny (model X.prog X.w) X.A (call (.ref C) us) (L2.EP X pins σ Q) X.xe s := by
  let d := s.heap.objs.size
  have sp1 := want (d + 1) d (it.hok.fresh (Nat.le_succ _)) (it.hok.fresh (Nat.le_refl _)) (Nat.ne_of_lt (Nat.lt_succ_self d))
  have it1 := Inv.made (C := C) it
  have args : Vals (V.ref (d + 1) :: (vs ++ dvs)) (Value.ref (d + 1) :: (us ++ ds)) := .cons rfl (r.append hd)
  have cnt : (Value.ref (d + 1) :: us ++ ds).length = ps.length := by
    have q := args.length
    rw [F.len _ _ _ _ sp1] at q
    exact q.symm
  have run := F.run _ X.stack _ _ ⟨Value.ref (d + 1) :: us, []⟩ (Value.ref (d + 1) :: (us ++ ds)) _ _ E (hr.make C us []) (it1.env0.make C us []) (hb _ (Value.ref (d + 1) :: us) it1.kIn cnt) args sp1
  apply wpAny_call
  refine make_map (f := f) it.kIn M.makes M.init (beq_iff_eq.mp M.fn) (codeAny_mono run ?_)
  rintro (er | fl) t end_
  · exact out _ _ _ er t it1 end_
  · cases fl with
    | ret u =>
      obtain ⟨v, H2, it2, rv, hv, q⟩ := it1.after end_
      rw [hv] at rv
      exact ⟨rv, V.ref (d + 1), H2, it2, rfl, q⟩
    | _ => exact False.elim end_
theorem pe_makeSD {E : L2.St → XK} {t : TA} (M : Mk X.K C f) (F : FnOk X.prog X.w X.K X.mg X.base CX k f fd ps sp) (hr : Room (k + 1) X.A) (hg : Gl X x) (hm : X.mg x = some (.ref C)) (hb : Binds X.K fd ps ds) (hd : Vals dvs ds) (out : ∀ σ, PassesAt CX X σ (E σ)) (ha : PA X (e :: es) t) (hdb : (x == ("__debug__" : Str)) = false := by decide) (he : starEach (e :: es) X.env = (false, eval e X.env) :: starEach es X.env := by rfl) (hpl : (backTo pos (starEach es X.env)).any (·.1) = false := by rfl) :
    PE X (.Call (.Name x p) (e :: es) [] pos) (tMakeS C (fun vs H Q E => sp (vs ++ dvs) H Q E) E t) := by
  constructor
  intro ps2 s σ H Q it want
  apply wpAny_Call_Name_kw
  apply ld_glob it hg hm _ hdb
  have each := ha.run pos ps2 s σ H _ it want
  refine PySem.W.callWith_K (h₀ := X.base) it.ok.mod.kin M.kp (thn each ?_) he hpl
  rintro us s1 ⟨vs, H1, it1, r, q⟩
  exact ⟨it1.kIn, run_makeSD M F hr hb hd (out σ) it1 r q⟩
end
end Mv
/-! A part of what a slot owns, reached by fields and places: it may be changed where it stands. -/
namespace Mv
open PySem L2
/-- a step into an owned thing -/
inductive PS1 where
  | fl (f : Str) | ix (k : Nat)
def subS : D → PS1 → Option D
  | .lst ds, .ix k => ds[k]?
  | .tup ds, .ix k => (match ds[k]? with
    | some d => if isL d then some d else none
    | none => none)
  | .ob _ fs, .fl f => (match fs.lookup f with
    | some d => if isL d then some d else none
    | none => none)
  | _, _ => none
def putS : D → PS1 → D → D
  | .lst ds, .ix k, d => .lst (ds.set k d)
  | .tup ds, .ix k, d => .tup (ds.set k d)
  | .ob C fs, .fl f, d => .ob C (putD f d fs)
  | x, _, _ => x
def subP : D → List PS1 → Option D
  | d, [] => some d
  | d, s :: π => (match subS d s with
    | some d1 => subP d1 π
    | none => none)
def putP : D → List PS1 → D → D
  | _, [], x => x
  | d, s :: π, x => (match subS d s with
    | some d1 => putS d s (putP d1 π x)
    | none => d)
/-- the value at a step -/
def PV (H : Hp) (v : V) : PS1 → V → Prop
  | .ix k, w => ∃ p xs, v = .ref p ∧ (H p = some (.lst xs) ∨ TX H p xs) ∧ xs[k]? = some w
  | .fl f, w => ∃ p C dx gs, v = .ref p ∧ H p = some (.ins C dx gs) ∧ gs.lookup f = some w
def PVs (H : Hp) : V → List PS1 → V → Prop
  | v, [], w => w = v
  | v, s :: π, w => ∃ u, PV H v s u ∧ PVs H u π w
section
variable {K : PySem.W.Frag} {B B' H H' : Hp}
theorem PV.le (e : Le H H') {v w : V} {s : PS1} (h : PV H v s w) : PV H' v s w := by
  cases s with
  | ix k =>
    obtain ⟨p, xs, h1, h2, h3⟩ := h
    exact ⟨p, xs, h1, h2.imp (fun q => e _ _ q) fun q => e.tx q, h3⟩
  | fl f =>
    obtain ⟨p, C, dx, gs, h1, h2, h3⟩ := h
    exact ⟨p, C, dx, gs, h1, e _ _ h2, h3⟩
theorem PVs.le (e : Le H H') : ∀ {π : List PS1} {v w : V}, PVs H v π w → PVs H' v π w
  | [], v, w, h => h
  | s :: π, v, w, ⟨u, h1, h2⟩ => ⟨u, h1.le e, PVs.le e h2⟩
theorem fIx_at : ∀ {fs : List (Str × D)} {f : Str} {d : D}, fs.lookup f = some d → ∃ k, fs[k]? = some (f, d) ∧ (∀ x, putD f x fs = fs.set k (f, x)) ∧ ∀ (gs : List (Str × V)) {R : Str × D → Str × V → List Addr → Prop} {c : List (List Addr)}, All3 R fs gs c → (∀ a b c, R a b c → a.1 = b.1) → ∀ p, gs[k]? = some p → gs.lookup f = some p.2
  | [], f, d, h => by cases h
  | (g, e) :: fs, f, d, h => by
    rw [List.lookup_cons] at h
    cases hg : f == g with
    | true =>
      rw [hg] at h
      cases h
      have e1 := beq_iff_eq.mp hg
      subst e1
      refine ⟨0, rfl, fun x => by unfold putD; rw [if_pos rfl]; rfl, fun gs R c al hR p hp => ?_⟩
      cases al with
      | cons r t =>
        rename_i b cc bs cs
        simp at hp
        subst hp
        obtain ⟨m, w⟩ := b
        have := hR _ _ _ r
        cases this
        rw [List.lookup_cons, hg]
    | false =>
      rw [hg] at h
      obtain ⟨k, h1, h2, h3⟩ := fIx_at h
      have hne : g ≠ f := fun z => by rw [z] at hg; simp at hg
      refine ⟨k + 1, by simpa using h1, fun x => by unfold putD; rw [if_neg hne, h2 x]; rfl, fun gs R c al hR p hp => ?_⟩
      cases al with
      | cons r t =>
        rename_i b cc bs cs
        obtain ⟨m, w⟩ := b
        have := hR _ _ _ r
        cases this
        rw [List.lookup_cons, hg]
        exact h3 bs t hR p (by simpa using hp)
theorem set_fl {cs : List (List Addr)} {k : Nat} {c c2 : List Addr} (nd : cs.flatten.Nodup) (hk : cs[k]? = some c) (n2 : c2.Nodup) (h : ∀ a ∈ c2, a ∈ c ∨ a ∉ cs.flatten) :
    (cs.set k c2).flatten.Nodup ∧ ∀ a ∈ (cs.set k c2).flatten, (a ∈ cs.flatten ∧ a ∉ c) ∨ a ∈ c2 := by
  refine ⟨nodup_set nd n2 k (fun _ _ => True.intro) fun a ha c' hc' hac => ?_, fun a ha => ?_⟩
  · obtain ⟨m, hm⟩ := mem_ix hc'
    by_cases e : m = k
    · subst e; exact ⟨_, hm, hac⟩
    · rcases h a ha with z | z
      · exact absurd z (apart_of nd hk hm e a hac)
      · exact absurd (mem_fl hc' hac) z
  · obtain ⟨c', h1, h2⟩ := List.mem_flatten.mp ha
    obtain ⟨m, h3⟩ := mem_ix h1
    rcases set_ix h3 with ⟨_, rfl⟩ | ⟨h4, h5⟩
    · exact .inr h2
    · exact .inl ⟨mem_fl (List.mem_of_getElem? h5) h2, apart_of nd hk h5 h4 a h2⟩
/-- d' at v' is a part of d at v: any change of it is a change of d -/
structure Foc (K : PySem.W.Frag) (B H : Hp) (n : Nat) (v : V) (fp : List Addr) (m : Nat) (d' : D) (v' : V) (fp' : List Addr) (put : D → D) : Prop where
  ow : Ow K B H m d' v' fp'
  nd : fp'.Nodup
  sub : ∀ a ∈ fp', a ∈ fp
  back : ∀ (B' H' : Hp) (d2 : D) (fp2 : List Addr), Le B B' → (∀ a ∈ fp, a ∉ fp' → H' a = H a) → Ow K B' H' m d2 v' fp2 → (m = 0 → d2 = d') → isL d2 = isL d' → fp2.Nodup → (∀ a ∈ fp2, a ∈ fp' ∨ a ∉ fp) →
    ∃ fpn, Ow K B' H' n (put d2) v fpn ∧ fpn.Nodup ∧ ∀ a ∈ fpn, (a ∈ fp ∧ a ∉ fp') ∨ a ∈ fp2
theorem Ow.foc {n : Nat} {d d' : D} {v : V} {fp : List Addr} {s : PS1} (eBH : Le B H) (ow : Ow K B H (n + 1) d v fp) (nd : fp.Nodup) (h : subS d s = some d') : ∃ v' fp', PV H v s v' ∧ Foc K B H (n + 1) v fp n d' v' fp' (putS d s) := by
  have nilc : ∀ {p : Addr} {cs : List (List Addr)} {c : List Addr}, (p :: cs.flatten).Nodup → c ∈ cs → p ∉ c := fun hn hc hp => (List.nodup_cons.mp hn).1 (mem_fl hc hp)
  obtain ⟨ds, p, xs, fps, rfl, rfl, hp, rfl, al⟩ | ⟨ds, p, xs, fps, rfl, rfl, hp, rfl, al⟩ | ⟨C, fs, p, dx, gs, fps, rfl, rfl, hp, rfl, al⟩ | ⟨kvs, p, xs, fps, rfl, rfl, hp, rfl, al⟩ | ⟨kvs, p, xs, fps, rfl, rfl, hp, rfl, al⟩ | ⟨hA, rfl, hr⟩ := ow
  · cases s with
    | fl f => unfold subS at h; cases h
    | ix k =>
      have hk : ds[k]? = some d' := h
      obtain ⟨x, c, g1, g2, g3⟩ := al.get hk
      have hc := List.mem_of_getElem? g2
      obtain ⟨na, nf⟩ := List.nodup_cons.mp nd
      refine ⟨x, c, ⟨p, xs, rfl, .inl hp, g1⟩, ⟨g3, nd_mem nf hc, fun a ha => List.mem_cons_of_mem _ (mem_fl hc ha), ?_⟩⟩
      intro B' H' d2 fp2 eB eq ow2 _ _ nd2 fr2
      have pc : p ∉ c := nilc nd hc
      obtain ⟨q1, q2⟩ := set_fl nf g2 nd2 fun a ha => (fr2 a ha).imp id fun z w => z (List.mem_cons_of_mem _ w)
      refine ⟨p :: (fps.set k fp2).flatten, .inl ⟨ds.set k d2, p, xs, fps.set k fp2, rfl, rfl, by rw [eq p List.mem_cons_self pc]; exact hp, rfl, ?_⟩, List.nodup_cons.mpr ⟨fun z => ?_, q1⟩, fun a ha => ?_⟩
      · have z := all3_ixset al (S := Ow K B' H' n) (i := k) (a := d2) (b := x) (c := fp2) (fun m y w c2 hm hc2 r => r.mono eB fun a ha => eq a (List.mem_cons_of_mem _ (mem_fl (List.mem_of_getElem? hc2) ha)) (apart_of nf g2 hc2 hm a ha)) ow2
        rw [set_same g1] at z
        exact z
      · rcases q2 p z with w | w
        · exact na w.1
        · rcases fr2 p w with u | u
          · exact pc u
          · exact u List.mem_cons_self
      · rcases List.mem_cons.mp ha with e | e
        · subst e; exact .inl ⟨List.mem_cons_self, pc⟩
        · exact (q2 a e).imp (fun w => ⟨List.mem_cons_of_mem _ w.1, w.2⟩) id
  · cases s with
    | fl f => unfold subS at h; cases h
    | ix k =>
      unfold subS at h
      simp only [] at h
      split at h
      · rename_i d0 hk
        split at h
        · rename_i hL
          cases h
          obtain ⟨x, c, g1, g2, g3⟩ := al.get hk
          have hc := List.mem_of_getElem? g2
          have g4 : Ow K B H n d' x c := by
            rcases g3 with q | q
            · exact q.2
            · rw [hL] at q; cases q.1
          refine ⟨x, c, ⟨p, xs, rfl, .inr (eBH.tx hp), g1⟩, ⟨g4, nd_mem nd hc, fun a ha => mem_fl hc ha, ?_⟩⟩
          intro B' H' d2 fp2 eB eq ow2 _ hL2 nd2 fr2
          obtain ⟨q1, q2⟩ := set_fl nd g2 nd2 fr2
          refine ⟨(fps.set k fp2).flatten, .inr (.inl ⟨ds.set k d2, p, xs, fps.set k fp2, rfl, rfl, eB.tx hp, rfl, ?_⟩), q1, q2⟩
          have z := all3_ixset al (S := fun d v fp => (isL d = true ∧ Ow K B' H' n d v fp) ∨ (isL d = false ∧ fp = [] ∧ Rep K B' d v)) (i := k) (a := d2) (b := x) (c := fp2) (fun m y w c2 hm hc2 r => r.imp (fun r => ⟨r.1, r.2.mono eB fun a ha => eq a (mem_fl (List.mem_of_getElem? hc2) ha) (apart_of nd g2 hc2 hm a ha)⟩) fun r => ⟨r.1, r.2.1, Rep.mono eB _ _ r.2.2⟩) (.inl ⟨by rw [hL2]; exact hL, ow2⟩)
          rw [set_same g1] at z
          exact z
        · cases h
      · cases h
  · cases s with
    | ix k => unfold subS at h; cases h
    | fl f =>
      unfold subS at h
      simp only [] at h
      split at h
      · rename_i d0 hk
        split at h
        · rename_i hL
          cases h
          obtain ⟨k, k1, k2, k3⟩ := fIx_at hk
          obtain ⟨x, c, g1, g2, g0, g3⟩ := al.get k1
          have hc := List.mem_of_getElem? g2
          have g4 : Ow K B H n d' x.2 c := by
            rcases g3 with q | q
            · exact q.2
            · rw [hL] at q; cases q.1
          obtain ⟨na, nf⟩ := List.nodup_cons.mp nd
          refine ⟨x.2, c, ⟨p, C, dx, gs, rfl, hp, k3 gs al (fun a b c r => r.1) x g1⟩, ⟨g4, nd_mem nf hc, fun a ha => List.mem_cons_of_mem _ (mem_fl hc ha), ?_⟩⟩
          intro B' H' d2 fp2 eB eq ow2 _ hL2 nd2 fr2
          have pc : p ∉ c := nilc nd hc
          obtain ⟨q1, q2⟩ := set_fl nf g2 nd2 fun a ha => (fr2 a ha).imp id fun z w => z (List.mem_cons_of_mem _ w)
          refine ⟨p :: (fps.set k fp2).flatten, .inr (.inr (.inl ⟨C, putD f d2 fs, p, dx, gs, fps.set k fp2, rfl, rfl, by rw [eq p List.mem_cons_self pc]; exact hp, rfl, ?_⟩)), List.nodup_cons.mpr ⟨fun z => ?_, q1⟩, fun a ha => ?_⟩
          · rw [k2 d2]
            have z := all3_ixset al (S := fun (d : Str × D) (v : Str × V) fp => d.1 = v.1 ∧ ((isL d.2 = true ∧ Ow K B' H' n d.2 v.2 fp) ∨ (isL d.2 = false ∧ fp = [] ∧ Rep K B' d.2 v.2))) (i := k) (a := (f, d2)) (b := x) (c := fp2) (fun m y w c2 hm hc2 r => ⟨r.1, r.2.imp (fun r => ⟨r.1, r.2.mono eB fun a ha => eq a (List.mem_cons_of_mem _ (mem_fl (List.mem_of_getElem? hc2) ha)) (apart_of nf g2 hc2 hm a ha)⟩) fun r => ⟨r.1, r.2.1, Rep.mono eB _ _ r.2.2⟩⟩) ⟨g0, .inl ⟨by rw [hL2]; exact hL, ow2⟩⟩
            rw [set_same g1] at z
            exact z
          · rcases q2 p z with w | w
            · exact na w.1
            · rcases fr2 p w with u | u
              · exact pc u
              · exact u List.mem_cons_self
          · rcases List.mem_cons.mp ha with e | e
            · subst e; exact .inl ⟨List.mem_cons_self, pc⟩
            · exact (q2 a e).imp (fun w => ⟨List.mem_cons_of_mem _ w.1, w.2⟩) id
        · cases h
      · cases h
  · cases s <;> (unfold subS at h; cases h)
  · cases s <;> (unfold subS at h; cases h)
  · cases d <;> first | (cases hA; done) | (cases s <;> (unfold subS at h; cases h))
theorem isL_put {d d1 d2 : D} {s : PS1} (h : subS d s = some d1) : isL (putS d s d2) = isL d := by
  unfold subS at h
  split at h <;> first | rfl | cases h
/-- a path -/
theorem Ow.focP (eBH : Le B H) : ∀ {π : List PS1} {n : Nat} {d d' : D} {v : V} {fp : List Addr}, Ow K B H (n + π.length) d v fp → fp.Nodup → subP d π = some d' → ∃ v' fp', PVs H v π v' ∧ Foc K B H (n + π.length) v fp n d' v' fp' (putP d π)
  | [], n, d, d', v, fp, ow, nd, h => by
    cases h
    exact ⟨v, fp, rfl, ⟨ow, nd, fun a ha => ha, fun B' H' d2 fp2 _ _ ow2 _ _ nd2 fr2 => ⟨fp2, ow2, nd2, fun a ha => .inr ha⟩⟩⟩
  | s :: π, n, d, d', v, fp, ow, nd, h => by
    unfold subP at h
    cases hs : subS d s with
    | none =>
      rw [hs] at h; cases h
    | some d1 =>
      rw [hs] at h
      have ow : Ow K B H ((n + π.length) + 1) d v fp := ow
      obtain ⟨v1, c1, p1, F1⟩ := ow.foc eBH nd hs
      obtain ⟨v2, c2, p2, F2⟩ := Ow.focP eBH F1.ow F1.nd h
      refine ⟨v2, c2, ⟨v1, p1, p2⟩, ⟨F2.ow, F2.nd, fun a ha => F1.sub a (F2.sub a ha), ?_⟩⟩
      intro B' H' d2 fp2 eB eq ow2 h0 hL nd2 fr2
      obtain ⟨fp3, q1, q2, q3⟩ := F2.back B' H' d2 fp2 eB (fun a ha hn => eq a (F1.sub a ha) hn) ow2 h0 hL nd2 fun a ha => (fr2 a ha).imp id fun z w => z (F1.sub a w)
      have e : putP d (s :: π) d2 = putS d s (putP d1 π d2) := by
        show (match subS d s with
          | some d1 => putS d s (putP d1 π d2)
          | none => d) = _
        rw [hs]
      rw [e]
      have hL1 : isL (putP d1 π d2) = isL d1 := by
        cases π with
        | nil => cases h; exact hL
        | cons s2 π2 =>
          show isL (match subS d1 s2 with
            | some d3 => putS d1 s2 (putP d3 π2 d2)
            | none => d1) = _
          cases hs2 : subS d1 s2 with
          | none => rfl
          | some d3 => exact isL_put hs2
      obtain ⟨fp4, r1, r2, r3⟩ := F1.back B' H' _ fp3 eB (fun a ha hn => eq a ha fun z => hn (F2.sub a z)) q1 (fun z => by
        have : π = [] := List.eq_nil_of_length_eq_zero (by omega)
        subst this
        cases h
        exact h0 (by omega)) hL1 q2 fun a ha => by
          rcases q3 a ha with w | w
          · exact .inl w.1
          · rcases fr2 a w with u | u
            · exact .inl (F2.sub a u)
            · exact .inr u
      refine ⟨fp4, r1, r2, fun a ha => ?_⟩
      rcases r3 a ha with w | w
      · exact .inl ⟨w.1, fun z => w.2 (F2.sub a z)⟩
      · rcases q3 a w with u | u
        · exact .inl ⟨F1.sub a u.1, u.2⟩
        · exact .inr u
end
end Mv
/-! Several parts of what slots own, lent to one call. -/
namespace Mv
open PySem L2
theorem nodup_ixs : ∀ {cs : List (List Addr)}, (∀ (i : Nat) c, cs[i]? = some c → c.Nodup) → (∀ (i j : Nat) c d, i ≠ j → cs[i]? = some c → cs[j]? = some d → ∀ a ∈ c, a ∉ d) → cs.flatten.Nodup
  | [], _, _ => List.nodup_nil
  | c :: cs, h1, h2 => by
    rw [List.flatten_cons]
    refine List.nodup_append.mpr ⟨h1 0 c rfl, nodup_ixs (fun i d hd => h1 (i + 1) d (by simpa using hd)) (fun i j d e ne hi hj => h2 (i + 1) (j + 1) d e (by omega) (by simpa using hi) (by simpa using hj)), fun a ha b hb e => ?_⟩
    subst e
    obtain ⟨d, hd, hb⟩ := List.mem_flatten.mp hb
    obtain ⟨m, hm⟩ := mem_ix hd
    exact h2 0 (m + 1) c d (by omega) rfl (by simpa using hm) a ha hb
/-- a part that is lent, and what it is behind the call -/
structure LN where
  i : Nat
  w : V
  s : Sl
  n : Nat
  fp : List Addr
  m : Nat
  d' : D
  v' : V
  fp' : List Addr
  put : D → D
  d2 : D
  fp2 : List Addr
structure LN.Ok (x : LN) (K : PySem.W.Frag) (B H : Hp) (ss : En) (σ : L2.St) (fps : List (List Addr)) : Prop where
  hs : ss[x.i]? = some x.s
  hσ : σ[x.i]? = some (some x.w)
  hf : fps[x.i]? = some x.fp
  foc : Foc K B H x.n x.w x.fp (x.m + 1) x.d' x.v' x.fp' x.put
  get : ∃ d, slGet x.s = some (x.n, d)
structure LN.New (x : LN) (K : PySem.W.Frag) (B' H' : Hp) : Prop where
  ow : Ow K B' H' (x.m + 1) x.d2 x.v' x.fp2
  lk : isL x.d2 = isL x.d'
def setAll {α : Type} (g : LN → α) : List LN → List α → List α
  | [], l => l
  | x :: L, l => setAll g L (l.set x.i (g x))
theorem setAll_len {α : Type} {g : LN → α} : ∀ {L : List LN} {l : List α}, (setAll g L l).length = l.length
  | [], l => rfl
  | x :: L, l => by rw [setAll, setAll_len, List.length_set]
theorem setAll_out {α : Type} {g : LN → α} : ∀ {L : List LN} {l : List α} {i : Nat}, i ∉ L.map (·.i) → (setAll g L l)[i]? = l[i]?
  | [], l, i, _ => rfl
  | x :: L, l, i, h => by
    rw [List.map_cons, List.mem_cons, not_or] at h
    rw [setAll, setAll_out h.2, List.getElem?_set_ne (fun z => h.1 z.symm)]
theorem setAll_in {α : Type} {g : LN → α} : ∀ {L : List LN} {l : List α} {x : LN}, (L.map (·.i)).Nodup → x ∈ L → x.i < l.length → (setAll g L l)[x.i]? = some (g x)
  | y :: L, l, x, nd, h, hl => by
    rw [List.map_cons] at nd
    rcases List.nodup_cons.mp nd with ⟨n1, n2⟩
    rw [setAll]
    obtain e | e := List.mem_cons.mp h
    · subst e
      rw [setAll_out n1, List.getElem?_set_self hl]
    · exact setAll_in n2 e (by rw [List.length_set]; exact hl)
section
variable {K : PySem.W.Frag} {B0 H0 B B' H H' : Hp} {σ : L2.St} {ss : En} {fps : List (List Addr)}
theorem slGet_ow {s : Sl} {n : Nat} {d : D} {w : V} {fp : List Addr} (h : slGet s = some (n, d)) (r : slotOk K B H s (some w) fp) : Ow K B H n d w fp := by
  cases s with
  | un => cases h
  | v n' d' => cases h; obtain ⟨v, e, q⟩ := r; cases e; exact q
  | o w' n' d' => cases h; obtain ⟨e, q⟩ := r; cases e; exact q
  | s a C fs => cases h
theorem slPut_ok {s : Sl} {n : Nat} {d d2 : D} {w : V} {fp fp2 : List Addr} (h : slGet s = some (n, d)) (r : slotOk K B H s (some w) fp) (ow : Ow K B' H' n d2 w fp2) : slotOk K B' H' (slPut s d2) (some w) fp2 := by
  cases s with
  | un => cases h
  | v n' d' => cases h; exact ⟨w, rfl, ow⟩
  | o w' n' d' => cases h; obtain ⟨e, _⟩ := r; cases e; exact ⟨rfl, ow⟩
  | s a C fs => cases h
/-- a part is changed in place -/
theorem SI.chgP (h : SI K B0 H0 B σ H ss fps) {i n m : Nat} {s : Sl} {d d' d2 : D} {w v' : V} {fp fp' fp2 : List Addr} {put : D → D} (hs : ss[i]? = some s) (hσ : σ[i]? = some (some w)) (hf : fps[i]? = some fp) (hg : slGet s = some (n, d)) (F : Foc K B H n w fp (m + 1) d' v' fp' put)
    (eq : ∀ a, a ∉ fp' → H' a = H a) (ow2 : Ow K B H' (m + 1) d2 v' fp2) (hL : isL d2 = isL d') (nd2 : fp2.Nodup) (fr : ∀ a ∈ fp2, a ∈ fp' ∨ (a ∉ fps.flatten ∧ B a = none ∧ H0 a = none)) :
    ∃ fps', SI K B0 H0 B σ H' (ss.set i (slPut s (put d2))) fps' := by
  obtain ⟨o, c, h1, h2, r⟩ := h.pi.al.get hs
  rw [hσ] at h1
  cases h1
  rw [hf] at h2
  cases h2
  obtain ⟨fpn, q1, q2, q3⟩ := F.back B H' d2 fp2 (Le.refl B) (fun a _ hn => eq a hn) ow2 (fun z => by cases z) hL nd2 fun a ha => (fr a ha).imp id fun z w => z.1 (mem_fl (List.mem_of_getElem? hf) w)
  refine ⟨_, h.chg hσ hf (fun a ha => eq a fun z => ha (F.sub a z)) (slPut_ok hg r q1) q2 fun a ha => ?_⟩
  rcases q3 a ha with z | z
  · exact .inl z.1
  · exact (fr a z).imp (F.sub a) id
/-- what was lent comes back -/
theorem SI.lendL (h : SI K B0 H0 B σ H ss fps) (L : List LN) (ok : ∀ x ∈ L, x.Ok K B H ss σ fps) (nd : (L.map (·.i)).Nodup) (st : Stp B (hideH H (L.map (·.fp')).flatten) B' H') (nw : ∀ x ∈ L, x.New K B' H') (n2 : (L.map (·.fp2)).flatten.Nodup)
    (fr : ∀ a ∈ (L.map (·.fp2)).flatten, B' a = none ∧ hideH H (L.map (·.fp')).flatten a = none) : ∃ fps', SI K B0 H0 B' σ H' (setAll (fun x => slPut x.s (x.put x.d2)) L ss) fps' ∧ ∀ a ∈ fps'.flatten, (a ∈ fps.flatten ∧ a ∉ (L.map (·.fp')).flatten) ∨ a ∈ (L.map (·.fp2)).flatten := by
  classical
  have inl : ∀ x ∈ L, ∀ a ∈ x.fp', a ∈ (L.map (·.fp')).flatten := fun x hx a ha => mem_fl (List.mem_map.mpr ⟨x, hx, rfl⟩) ha
  have subl : ∀ a ∈ (L.map (·.fp')).flatten, a ∈ fps.flatten := fun a ha => by
    obtain ⟨c, hc, hac⟩ := List.mem_flatten.mp ha
    obtain ⟨x, hx, rfl⟩ := List.mem_map.mp hc
    exact mem_fl (List.mem_of_getElem? (ok x hx).hf) ((ok x hx).foc.sub a hac)
  -- a cell of slot i outside the lent parts
  have out : ∀ (i : Nat) c a, fps[i]? = some c → a ∈ c → (∀ x ∈ L, x.i = i → a ∉ x.fp') → a ∉ (L.map (·.fp')).flatten := fun i c a hc ha hx z => by
    obtain ⟨c2, hc2, hac⟩ := List.mem_flatten.mp z
    obtain ⟨x, hx2, rfl⟩ := List.mem_map.mp hc2
    by_cases e : x.i = i
    · exact hx x hx2 e hac
    · exact apart_of h.pi.nd hc (ok x hx2).hf e a ((ok x hx2).foc.sub a hac) ha
  have keep : ∀ a, a ∈ fps.flatten → a ∉ (L.map (·.fp')).flatten → H' a = H a := fun a ha hn => by
    obtain ⟨u, e⟩ := (h.pi.here a ha).some
    rw [e]
    exact st.hh a u (by rw [hide_out hn]; exact e)
  have uniq : ∀ x ∈ L, ∀ y ∈ L, x.i = y.i → x = y := fun x hx y hy e => by
    obtain ⟨i, hi, e1⟩ := List.mem_iff_getElem.mp hx
    obtain ⟨j, hj, e2⟩ := List.mem_iff_getElem.mp hy
    have : i = j := by
      have := (List.getElem_inj (h₀ := by simpa using hi) (h₁ := by simpa using hj) nd).mp (by simp [e1, e2, e])
      exact this
    subst this
    rw [← e1, ← e2]
  have one : ∀ x : LN, ∃ fpn, x ∈ L → Ow K B' H' x.n (x.put x.d2) x.w fpn ∧ fpn.Nodup ∧ ∀ a ∈ fpn, (a ∈ x.fp ∧ a ∉ x.fp') ∨ a ∈ x.fp2 := fun x => by
    by_cases hx : x ∈ L
    · obtain ⟨fpn, q⟩ := (ok x hx).foc.back B' H' x.d2 x.fp2 st.bb (fun a ha hn => keep a (mem_fl (List.mem_of_getElem? (ok x hx).hf) ha) (out x.i x.fp a (ok x hx).hf ha fun y hy e => by rw [uniq y hy x hx e]; exact hn)) (nw x hx).ow (fun z => by cases z) (nw x hx).lk
        (nd_mem n2 (List.mem_map.mpr ⟨x, hx, rfl⟩)) fun a ha => by
          by_cases c : a ∈ (L.map (·.fp')).flatten
          · by_cases c2 : a ∈ x.fp'
            · exact .inl c2
            · refine .inr fun z => ?_
              exact out x.i x.fp a (ok x hx).hf z (fun y hy e => by rw [uniq y hy x hx e]; exact c2) c
          · refine .inr fun z => ?_
            have := (fr a (mem_fl (List.mem_map.mpr ⟨x, hx, rfl⟩) ha)).2
            rw [hide_out c] at this
            obtain ⟨u, e⟩ := (h.pi.here a (mem_fl (List.mem_of_getElem? (ok x hx).hf) z)).some
            rw [e] at this
            cases this
      exact ⟨fpn, fun _ => q⟩
    · exact ⟨[], fun z => absurd z hx⟩
  let g : LN → List Addr := fun x => Classical.choose (one x)
  have hg : ∀ x ∈ L, Ow K B' H' x.n (x.put x.d2) x.w (g x) ∧ (g x).Nodup ∧ ∀ a ∈ g x, (a ∈ x.fp ∧ a ∉ x.fp') ∨ a ∈ x.fp2 := fun x hx => Classical.choose_spec (one x) hx
  have lenf : fps.length = ss.length := by rw [← h.pi.al.len2]
  have ilt : ∀ x ∈ L, x.i < ss.length := fun x hx => (List.getElem?_eq_some_iff.mp (ok x hx).hs).1
  -- the cells of one slot behind the call
  have cell : ∀ (i : Nat) c, (setAll g L fps)[i]? = some c → (∃ x ∈ L, x.i = i ∧ c = g x) ∨ (i ∉ L.map (·.i) ∧ fps[i]? = some c) := fun i c hc => by
    by_cases hi : i ∈ L.map (·.i)
    · obtain ⟨x, hx, rfl⟩ := List.mem_map.mp hi
      rw [setAll_in nd hx (by rw [lenf]; exact ilt x hx)] at hc
      cases hc
      exact .inl ⟨x, hx, rfl, rfl⟩
    · rw [setAll_out hi] at hc
      exact .inr ⟨hi, hc⟩
  have other : ∀ (i : Nat) c, i ∉ L.map (·.i) → fps[i]? = some c → ∀ a ∈ c, a ∉ (L.map (·.fp')).flatten := fun i c hi hc a ha => out i c a hc ha fun x hx e => absurd (List.mem_map.mpr ⟨x, hx, e⟩) hi
  -- where a cell comes from
  have orig : ∀ (i : Nat) c, (setAll g L fps)[i]? = some c → ∀ a ∈ c, (∃ c0, fps[i]? = some c0 ∧ a ∈ c0 ∧ a ∉ (L.map (·.fp')).flatten) ∨ ∃ x ∈ L, x.i = i ∧ a ∈ x.fp2 := fun i c hc a ha => by
    rcases cell i c hc with ⟨x, hx, rfl, rfl⟩ | ⟨hi, hc⟩
    · rcases (hg x hx).2.2 a ha with z | z
      · exact .inl ⟨x.fp, (ok x hx).hf, z.1, out x.i x.fp a (ok x hx).hf z.1 fun y hy e => by rw [uniq y hy x hx e]; exact z.2⟩
      · exact .inr ⟨x, hx, rfl, z⟩
    · exact .inl ⟨c, hc, ha, other i c hi hc a ha⟩
  have old2 : ∀ (i : Nat) c0 a, fps[i]? = some c0 → a ∈ c0 → a ∉ (L.map (·.fp')).flatten → ∀ x ∈ L, a ∉ x.fp2 := fun i c0 a hc ha hn x hx z => by
    have := (fr a (mem_fl (List.mem_map.mpr ⟨x, hx, rfl⟩) z)).2
    rw [hide_out hn] at this
    obtain ⟨u, e⟩ := (h.pi.here a (mem_fl (List.mem_of_getElem? hc) ha)).some
    rw [e] at this
    cases this
  refine ⟨setAll g L fps, ⟨⟨st.bh, ?_, ?_, ?_⟩, ⟨h.st.bb.trans st.bb, fun a o e => ?_, st.bh, fun a e1 e2 => ?_⟩, ?_⟩, fun a ha => by
    obtain ⟨c, hc, hac⟩ := List.mem_flatten.mp ha
    obtain ⟨i, hi⟩ := mem_ix hc
    rcases orig i c hi a hac with ⟨c0, p1, p2, p3⟩ | ⟨x, hx, p1, p2⟩
    · exact .inl ⟨mem_fl (List.mem_of_getElem? p1) p2, p3⟩
    · exact .inr (mem_fl (List.mem_map.mpr ⟨x, hx, rfl⟩) p2)⟩
  · refine all3_mk (by rw [setAll_len]; exact h.pi.al.len1) (by rw [setAll_len, lenf, h.pi.al.len1]) fun i a b c ha hb hc => ?_
    rcases cell i c hc with ⟨x, hx, rfl, rfl⟩ | ⟨hi, hc⟩
    · rw [setAll_in nd hx (ilt x hx)] at ha
      cases ha
      rw [(ok x hx).hσ] at hb
      cases hb
      obtain ⟨o, c, k1, k2, r⟩ := h.pi.al.get (ok x hx).hs
      rw [(ok x hx).hσ] at k1
      cases k1
      obtain ⟨d, hd⟩ := (ok x hx).get
      exact slPut_ok hd r (hg x hx).1
    · rw [setAll_out hi] at ha
      obtain ⟨o, c0, k1, k2, r⟩ := h.pi.al.get ha
      rw [hb] at k1
      cases k1
      rw [hc] at k2
      cases k2
      exact r.mono st.bb fun z hz => keep z (mem_fl (List.mem_of_getElem? hc) hz) (other i c hi hc z hz)
  · refine nodup_ixs (fun i c hc => ?_) fun i j c d ne hi hj a ha hb => ?_
    · rcases cell i c hc with ⟨x, hx, rfl, rfl⟩ | ⟨_, hc⟩
      · exact (hg x hx).2.1
      · exact nd_mem h.pi.nd (List.mem_of_getElem? hc)
    · rcases orig i c hi a ha with ⟨c0, p1, p2, p3⟩ | ⟨x, hx, p1, p2⟩
      · rcases orig j d hj a hb with ⟨d0, q1, q2, q3⟩ | ⟨y, hy, q1, q2⟩
        · exact apart_of h.pi.nd p1 q1 (fun z => ne z.symm) a q2 p2
        · exact old2 i c0 a p1 p2 p3 y hy q2
      · rcases orig j d hj a hb with ⟨d0, q1, q2, q3⟩ | ⟨y, hy, q1, q2⟩
        · exact old2 j d0 a q1 q2 q3 x hx p2
        · obtain ⟨k, hk, e1⟩ := List.mem_iff_getElem.mp hx
          obtain ⟨l, hl, e2⟩ := List.mem_iff_getElem.mp hy
          have hkl : k ≠ l := fun z => by
            subst z
            rw [e1] at e2
            subst e2
            exact ne (p1.symm.trans q1)
          have f1 : (L.map (·.fp2))[k]? = some x.fp2 := by rw [List.getElem?_map, List.getElem?_eq_getElem hk, e1]; rfl
          have f2 : (L.map (·.fp2))[l]? = some y.fp2 := by rw [List.getElem?_map, List.getElem?_eq_getElem hl, e2]; rfl
          exact apart_of n2 f1 f2 (fun z => hkl z.symm) a q2 p2
  · intro a ha
    obtain ⟨c, hc, hac⟩ := List.mem_flatten.mp ha
    obtain ⟨i, hi⟩ := mem_ix hc
    rcases orig i c hi a hac with ⟨c0, p1, p2, p3⟩ | ⟨x, hx, p1, p2⟩
    · have hm := mem_fl (List.mem_of_getElem? p1) p2
      exact st.dj a (h.pi.fr a hm) (by rw [hide_out p3]; exact h.pi.here a hm)
    · exact (fr a (mem_fl (List.mem_map.mpr ⟨x, hx, rfl⟩) p2)).1
  · have hn : a ∉ (L.map (·.fp')).flatten := fun z => by rw [h.fr a (subl a z)] at e; cases e
    exact st.hh a o (by rw [hide_out hn]; exact h.st.hh a o e)
  · have hn : a ∉ (L.map (·.fp')).flatten := fun z => by
      obtain ⟨u, q⟩ := e2.some
      rw [h.fr a (subl a z)] at q; cases q
    exact st.dj a (h.st.dj a e1 e2) (by rw [hide_out hn]; exact e2.le h.st.hh)
  · intro a ha
    obtain ⟨c, hc, hac⟩ := List.mem_flatten.mp ha
    obtain ⟨i, hi⟩ := mem_ix hc
    rcases orig i c hi a hac with ⟨c0, p1, p2, p3⟩ | ⟨x, hx, p1, p2⟩
    · exact h.fr a (mem_fl (List.mem_of_getElem? p1) p2)
    · by_cases c2 : a ∈ (L.map (·.fp')).flatten
      · exact h.fr a (subl a c2)
      · have := (fr a (mem_fl (List.mem_map.mpr ⟨x, hx, rfl⟩) p2)).2
        rw [hide_out c2] at this
        exact h.st.hh.back this
end
end Mv
/-! A def that is lent some of its arguments. -/
namespace Mv
open PySem L2
open Classical
/-- what a call tells: a value n levels owned, and what the lent arguments are behind it -/
inductive OV where
  | ok (n : Nat) (d : D) (ds : List D) | exc (e : Exo) (ds : List D) | no
abbrev FV := List D → OV
/-- of each argument: frozen, or lent, owned m + 1 levels deep -/
abbrev Md := List (Option Nat)
def slM : Option Nat → V → D → Sl
  | none, _, d => .v 0 d
  | some m, w, d => .o w (m + 1) d
def envV : Md → List V → List D → En
  | m :: ms, w :: ws, d :: ds => slM m w d :: envV ms ws ds
  | _, _, _ => []
/-- what the lent slots hold -/
def GetV : Md → List V → List D → En → Prop
  | [], [], [], _ => True
  | none :: ms, _ :: ws, d :: ds, _ :: ss => d = .non ∧ GetV ms ws ds ss
  | some m :: ms, w :: ws, d :: ds, s :: ss => s = .o w (m + 1) d ∧ GetV ms ws ds ss
  | _, _, _, _ => False
def AftV (K : PySem.W.Frag) (B H : Hp) : Md → List V → List D → List (List Addr) → Prop
  | [], [], [], [] => True
  | none :: ms, _ :: vs, d :: ds, c :: cs => d = .non ∧ c = [] ∧ AftV K B H ms vs ds cs
  | some m :: ms, v :: vs, d :: ds, c :: cs => Ow K B H (m + 1) d v c ∧ AftV K B H ms vs ds cs
  | _, _, _, _ => False
/-- an answer that is owned beside what is lent -/
structure RwV (K : PySem.W.Frag) (H0 B H : Hp) (n : Nat) (d : D) (v : V) (fp : List Addr) (cs : List (List Addr)) : Prop where
  ow : Ow K B H n d v fp
  nd : fp.Nodup
  fr : ∀ a ∈ fp, a ∉ cs.flatten ∧ B a = none ∧ H0 a = none
def spV (K : PySem.W.Frag) (ms : Md) (m : FV) : Sp := fun vs H Q E => ∃ B ds cs, Le B H ∧ ms.length = vs.length ∧ All3 (slotOk K B H) (envV ms vs ds) (vs.map some) cs ∧ cs.flatten.Nodup ∧ (∀ a ∈ cs.flatten, B a = none) ∧ match m ds with
  | .ok n d ds' => ∀ B' v H' cs' fp, Stp B (hideH H cs.flatten) B' H' → AftV K B' H' ms vs ds' cs' → cs'.flatten.Nodup → (∀ a ∈ cs'.flatten, B' a = none ∧ hideH H cs.flatten a = none) → RwV K (hideH H cs.flatten) B' H' n d v fp cs' → Q v H'
  | .exc e ds' => ∀ B' cls dd H' cs', Stp B (hideH H cs.flatten) B' H' → AftV K B' H' ms vs ds' cs' → cs'.flatten.Nodup → (∀ a ∈ cs'.flatten, B' a = none ∧ hideH H cs.flatten a = none) → ExR K B' H' e cls dd → E cls dd H'
  | .no => False
def RetV (ms : Md) (ws : List V) (r : Nat × D × List D) (o : SO) : Prop := ∃ ss, (o = .rn r.1 r.2.1 ss ∨ (r.1 = 0 ∧ o = .ru r.2.1 ss) ∨ (r.1 = 0 ∧ r.2.1 = .non ∧ o = .nx ss)) ∧ GetV ms ws r.2.2 ss
def ExcV (ms : Md) (ws : List V) (r : Exo × List D) (o : SO) : Prop := ∃ ss, o = .exc r.1 ss ∧ GetV ms ws r.2 ss
noncomputable def fnV (ms : Md) (nn : Nat) (F : SM) : FV := fun ds => if ds.length = ms.length then
    (if h : ∃ r, ∀ ws : List V, ws.length = ms.length → RetV ms ws r (F (envV ms ws ds ++ List.replicate (nn - ms.length) .un)) then .ok h.choose.1 h.choose.2.1 h.choose.2.2
     else if h : ∃ r, ∀ ws : List V, ws.length = ms.length → ExcV ms ws r (F (envV ms ws ds ++ List.replicate (nn - ms.length) .un)) then .exc h.choose.1 h.choose.2 else .no) else .no
theorem GetV.inj : ∀ {ms : Md} {ws : List V} {ds es : List D} {ss : En}, GetV ms ws ds ss → GetV ms ws es ss → ds = es
  | [], [], [], [], _, _, _ => rfl
  | none :: ms, w :: ws, d :: ds, e :: es, s :: ss, h, k => by
    obtain ⟨h1, h2⟩ := h
    obtain ⟨k1, k2⟩ := k
    rw [h1, k1, GetV.inj h2 k2]
  | some m :: ms, w :: ws, d :: ds, e :: es, s :: ss, h, k => by
    obtain ⟨h1, h2⟩ := h
    obtain ⟨k1, k2⟩ := k
    rw [h1] at k1
    injection k1 with _ _ k1
    rw [k1, GetV.inj h2 k2]
  | [], [], [], _ :: _, _, _, k => k.elim
  | [], [], _ :: _, _, _, h, _ => h.elim
  | [], _ :: _, _, _, _, h, _ => by cases h
  | none :: _, [], _, _, _, h, _ => h.elim
  | some _ :: _, [], _, _, _, h, _ => h.elim
  | none :: _, _ :: _, [], _, _, h, _ => h.elim
  | some _ :: _, _ :: _, [], _, _, h, _ => h.elim
  | none :: _, _ :: _, _ :: _, _, [], h, _ => h.elim
  | some _ :: _, _ :: _, _ :: _, _, [], h, _ => h.elim
  | none :: _, _ :: _, _ :: _, [], _ :: _, _, k => k.elim
  | some _ :: _, _ :: _, _ :: _, [], _ :: _, _, k => k.elim
theorem fnV_ok {ms : Md} {nn : Nat} {F : SM} {ds : List D} {r : Nat × D × List D} (hl : ds.length = ms.length) (h : ∀ ws : List V, ws.length = ms.length → RetV ms ws r (F (envV ms ws ds ++ List.replicate (nn - ms.length) .un))) : fnV ms nn F ds = .ok r.1 r.2.1 r.2.2 := by
  have x : ∃ r, ∀ ws : List V, ws.length = ms.length → RetV ms ws r (F (envV ms ws ds ++ List.replicate (nn - ms.length) .un)) := ⟨r, h⟩
  have e : x.choose = r := by
    obtain ⟨s1, a1, a2⟩ := x.choose_spec (List.replicate ms.length .non) (by simp)
    obtain ⟨s2, b1, b2⟩ := h (List.replicate ms.length .non) (by simp)
    generalize x.choose = q at *
    obtain ⟨q1, q2, q3⟩ := q
    obtain ⟨r1, r2, r3⟩ := r
    simp only at a1 a2 b1 b2
    rcases a1 with e1 | ⟨e0, e1⟩ | ⟨e0, e2, e1⟩ <;> rcases b1 with f1 | ⟨f0, f1⟩ | ⟨f0, f2, f1⟩ <;> rw [e1] at f1 <;> cases f1
    · rw [GetV.inj a2 b2]
    · rw [e0, f0, GetV.inj a2 b2]
    · rw [e0, f0, e2, f2, GetV.inj a2 b2]
  unfold fnV
  rw [if_pos hl, dif_pos x, e]
theorem fnV_exc {ms : Md} {nn : Nat} {F : SM} {ds : List D} {r : Exo × List D} (hl : ds.length = ms.length) (h : ∀ ws : List V, ws.length = ms.length → ExcV ms ws r (F (envV ms ws ds ++ List.replicate (nn - ms.length) .un))) : fnV ms nn F ds = .exc r.1 r.2 := by
  have n : ¬ ∃ r, ∀ ws : List V, ws.length = ms.length → RetV ms ws r (F (envV ms ws ds ++ List.replicate (nn - ms.length) .un)) := fun ⟨r, z⟩ => by
    obtain ⟨s1, a1, _⟩ := z (List.replicate ms.length .non) (by simp)
    obtain ⟨s2, b1, _⟩ := h (List.replicate ms.length .non) (by simp)
    rw [b1] at a1
    rcases a1 with e1 | ⟨_, e1⟩ | ⟨_, _, e1⟩ <;> cases e1
  have x : ∃ r, ∀ ws : List V, ws.length = ms.length → ExcV ms ws r (F (envV ms ws ds ++ List.replicate (nn - ms.length) .un)) := ⟨r, h⟩
  have e : x.choose = r := by
    obtain ⟨s1, a1, a2⟩ := x.choose_spec (List.replicate ms.length .non) (by simp)
    obtain ⟨s2, b1, b2⟩ := h (List.replicate ms.length .non) (by simp)
    generalize x.choose = q at *
    obtain ⟨q1, q2⟩ := q
    obtain ⟨r1, r2⟩ := r
    simp only at a1 a2 b1 b2
    rw [a1] at b1
    cases b1
    rw [GetV.inj a2 b2]
  unfold fnV
  rw [if_pos hl, dif_neg n, dif_pos x, e]
section
variable {K : PySem.W.Frag} {B H : Hp}
/-- what the lent slots hold, with their cells -/
theorem aft_of : ∀ {ms : Md} {ws : List V} {ds : List D} {ss : En} {σ : L2.St} {fps : List (List Addr)}, GetV ms ws ds ss → All3 (slotOk K B H) ss σ fps → fps.flatten.Nodup →
    ∃ cs, AftV K B H ms ws ds cs ∧ cs.flatten.Nodup ∧ ∀ a ∈ cs.flatten, a ∈ fps.flatten
  | [], [], [], ss, σ, fps, _, _, _ => ⟨[], True.intro, List.nodup_nil, fun a ha => by cases ha⟩
  | none :: ms, w :: ws, d :: ds, s :: ss, _ :: σ, c :: fps, h, .cons r t, nd => by
    rw [List.flatten_cons] at nd
    obtain ⟨n1, n2, n3⟩ := List.nodup_append.mp nd
    obtain ⟨cs, q1, q2, q3⟩ := aft_of h.2 t n2
    exact ⟨[] :: cs, ⟨h.1, rfl, q1⟩, q2, fun a ha => by rw [List.flatten_cons]; exact List.mem_append_right _ (q3 a ha)⟩
  | some m :: ms, w :: ws, d :: ds, s :: ss, o :: σ, c :: fps, h, .cons r t, nd => by
    rw [List.flatten_cons] at nd
    obtain ⟨n1, n2, n3⟩ := List.nodup_append.mp nd
    obtain ⟨cs, q1, q2, q3⟩ := aft_of h.2 t n2
    have e := h.1
    subst e
    refine ⟨c :: cs, ⟨r.2, q1⟩, ?_, fun a ha => ?_⟩
    · rw [List.flatten_cons]
      exact List.nodup_append.mpr ⟨n1, q2, fun a ha b hb e => n3 a ha b (q3 b hb) e⟩
    · rw [List.flatten_cons] at ha ⊢
      rcases List.mem_append.mp ha with z | z
      · exact (List.mem_append_left _ z)
      · exact List.mem_append_right _ (q3 a z)
  | [], [], _ :: _, _, _, _, h, _, _ => h.elim
  | [], _ :: _, _, _, _, _, h, _, _ => by cases h
  | none :: _, [], _, _, _, _, h, _, _ => h.elim
  | some _ :: _, [], _, _, _, _, h, _, _ => h.elim
  | none :: _, _ :: _, [], _, _, _, h, _, _ => h.elim
  | some _ :: _, _ :: _, [], _, _, _, h, _, _ => h.elim
  | none :: _, _ :: _, _ :: _, [], _, _, h, _, _ => h.elim
  | some _ :: _, _ :: _, _ :: _, [], _, _, h, _, _ => h.elim
theorem SI.startV {ms : Md} {vs : List V} {ds : List D} {cs : List (List Addr)} (bh : Le B H) (al : All3 (slotOk K B H) (envV ms vs ds) (vs.map some) cs) (nd : cs.flatten.Nodup) (fr : ∀ a ∈ cs.flatten, B a = none) (k : Nat) :
    SI K B (hideH H cs.flatten) B (vs.map some ++ List.replicate k none) H (envV ms vs ds ++ List.replicate k .un) (cs ++ List.replicate k []) := by
  have e : (cs ++ List.replicate k ([] : List Addr)).flatten = cs.flatten := by rw [List.flatten_append, flat_reps, List.append_nil]
  exact ⟨⟨bh, al.append (all_un k), by rw [e]; exact nd, fun a ha => fr a (by rw [e] at ha; exact ha)⟩, ⟨Le.refl _, hide_le, bh, fun a z _ => z⟩, fun a ha => hide_in (by rw [e] at ha; exact ha)⟩
end
section
variable {P : Program} {w : World} {K : PySem.W.Frag} {base : Heap} {mg : Str → Option Value}
theorem fn_okV {x qual : Str} {st : Stmt} {f : Addr} {fd : FuncData} {N ps : List Str} {k : Nat} {F : SM} (ms : Md) (nn : Nat) (hnp : ps.length = ms.length) (hnn : N.length = nn) (Fn : Fun K x qual st f fd) (S : FnScope N ps (defScope st))
    (hbody : ∀ (cdv : Value) (A : Around) (outer : List Env) (s : Shared) (H : Hp) (E : XK), Room k (A.deeper (PyProof.Rows.envOfC qual (defScope st) s.heap.objs.size f cdv)) →
      PSs (cxOf (L2N.CX P w) P w K mg base N qual (defScope st) f cdv A outer s H E) (defBody st) (tS K (fun cls d _ H => E cls d H) F)) :
    FnOk P w K mg base (L2N.CX P w) (k + 1) f fd ps (spV K ms (fnV ms nn F)) := by
  subst hnn
  refine okN Fn S (fun vs H Q E h => ?_) (fun cdv A outer s H vs Q E hr h => ⟨_, hbody cdv A outer s H E hr, ?_⟩)
  · obtain ⟨B, ds, cs, _, hl, _⟩ := h
    rw [← hl, hnp]
  · obtain ⟨B, ds, cs, bh, hl, al, nd, fr, q⟩ := h
    unfold fnV at q
    by_cases hl2 : ds.length = ms.length
    · rw [if_pos hl2] at q
      have si := SI.startV bh al nd fr (N.length - ms.length)
      have hvl : vs.length = ps.length := by rw [hnp, hl]
      unfold L2.start
      rw [hvl, hnp]
      refine tS_mk si ?_
      have fin : ∀ {B' σ' H' ss' fps' ds'}, SI K B (hideH H cs.flatten) B' σ' H' ss' fps' → GetV ms vs ds' ss' → ∃ cs', AftV K B' H' ms vs ds' cs' ∧ cs'.flatten.Nodup ∧ (∀ a ∈ cs'.flatten, B' a = none ∧ hideH H cs.flatten a = none) ∧ ∀ a ∈ cs'.flatten, a ∈ fps'.flatten := fun {B' σ' H' ss' fps' ds'} si' g => by
        obtain ⟨cs', q1, q2, q3⟩ := aft_of g si'.pi.al si'.pi.nd
        exact ⟨cs', q1, q2, fun a ha => ⟨si'.pi.fr a (q3 a ha), si'.fr a (q3 a ha)⟩, q3⟩
      by_cases hx : ∃ r, ∀ ws : List V, ws.length = ms.length → RetV ms ws r (F (envV ms ws ds ++ List.replicate (N.length - ms.length) .un))
      · rw [dif_pos hx] at q
        have sp := hx.choose_spec vs hl.symm
        generalize hx.choose = r at sp q
        obtain ⟨n, d, ds'⟩ := r
        obtain ⟨ss, e1, g⟩ := sp
        simp only at e1 g q
        rcases e1 with e1 | ⟨e0, e1⟩ | ⟨e0, e2, e1⟩
        · rw [e1]
          intro B' v σ' H' fps' fp si' rw'
          obtain ⟨cs', q1, q2, q3, q4⟩ := fin si' g
          exact q B' v H' cs' fp si'.st q1 q2 q3 ⟨rw'.ow, rw'.nd, fun a ha => ⟨fun z => (rw'.fr a ha).1 (q4 a z), (rw'.fr a ha).2⟩⟩
        · rw [e1]
          subst e0
          intro B' v σ' H' fps' si' rv
          obtain ⟨cs', q1, q2, q3, q4⟩ := fin si' g
          exact q B' v H' cs' [] si'.st q1 q2 q3 ⟨⟨rfl, rv⟩, List.nodup_nil, fun a ha => by cases ha⟩
        · rw [e1]
          subst e0 e2
          intro B' σ' H' fps' si'
          obtain ⟨cs', q1, q2, q3, q4⟩ := fin si' g
          exact q B' .non H' cs' [] si'.st q1 q2 q3 ⟨⟨rfl, rep_non⟩, List.nodup_nil, fun a ha => by cases ha⟩
      · rw [dif_neg hx] at q
        by_cases hy : ∃ r, ∀ ws : List V, ws.length = ms.length → ExcV ms ws r (F (envV ms ws ds ++ List.replicate (N.length - ms.length) .un))
        · rw [dif_pos hy] at q
          have sp := hy.choose_spec vs hl.symm
          generalize hy.choose = r at sp q
          obtain ⟨e, ds'⟩ := r
          obtain ⟨ss, e1, g⟩ := sp
          simp only at e1 g q
          rw [e1]
          intro B' σ' H' fps' cls dd si' ex
          obtain ⟨cs', q1, q2, q3, q4⟩ := fin si' g
          exact q B' cls dd H' cs' si'.st q1 q2 q3 ex
        · rw [dif_neg hy] at q; exact q.elim
    · rw [if_neg hl2] at q; exact q.elim
end
end Mv
/-! Paths as expressions; statements that change what stands at a path. -/
namespace Mv
open PySem L2
abbrev GP := En → Res (List PS1)
/-- what stands at a path of slot i: how deep it is owned, and what it is -/
def atP (i : Nat) (ss : En) (π : List PS1) : Option (Nat × D) := match ss[i]? with
  | some s => (match slGet s with
    | some (n, d) => if π.length ≤ n then (subP d π).map fun x => (n - π.length, x) else none
    | none => none)
  | none => none
/-- slot i with another thing at the path -/
def plA (i : Nat) (ss : En) (π : List PS1) (x : D) : En := match ss[i]? with
  | some s => (match slGet s with
    | some (_, d) => ss.set i (slPut s (putP d π x))
    | none => ss)
  | none => ss
def gVar (i : Nat) : GP := fun ss => match atP i ss [] with
  | some _ => .ok []
  | none => .no
/-- the place of item z of the list or tuple -/
def stI (r : Option (Nat × D)) (z : Int) : Option Nat := match r with
  | some (_ + 1, .lst ds) => ixN ds.length z
  | some (_ + 1, .tup ds) => (match ixN ds.length z with
    | some k => (match ds[k]? with
      | some d => if isL d then some k else none
      | none => none)
    | none => none)
  | _ => none
def gIx (i : Nat) (g : GP) (fb : EB) : GP := fun ss => match g ss with
  | .ok π => (match fb ss with
    | .ok (_, .int z) => (match stI (atP i ss π) z with
      | some k => .ok (π ++ [.ix k])
      | none => .no)
    | .ok (_, _) => .no
    | .exc e => .exc e
    | .no => .no)
  | .exc e => .exc e
  | .no => .no
def tPth (K : PySem.W.Frag) (W : WX) (i : Nat) (g : GP) : TE := fun σ H Q => ∃ B ss fps, Pi K B σ H ss fps ∧ match g ss with
  | .ok π => ∀ B' v H', Stp B H B' H' → (∃ w, σ[i]? = some (some w) ∧ PVs H' w π v) → Q v H'
  | .exc e => ∀ B' cls dd H', Stp B H B' H' → ExR K B' H' e cls dd → W cls dd σ H'
  | .no => False
section
variable {K : PySem.W.Frag} {B0 H0 B B' H H' : Hp} {σ : L2.St} {ss : En} {fps : List (List Addr)}
theorem PV.fun {v w w' : V} {s : PS1} (h : PV H v s w) (k : PV H v s w') : w = w' := by
  cases s with
  | ix j =>
    obtain ⟨p, xs, e1, h1, h2⟩ := h
    obtain ⟨p', ys, e2, k1, k2⟩ := k
    rw [e1] at e2
    cases e2
    have e : xs = ys := by
      rcases h1 with h1 | h1 <;> rcases k1 with k1 | k1
      · rw [h1] at k1; cases k1; rfl
      · obtain ⟨o, q, _⟩ := k1; rw [h1] at q; cases q
      · obtain ⟨o, q, _⟩ := h1; rw [k1] at q; cases q
      · exact h1.inj k1
    subst e
    rw [h2] at k2
    exact Option.some.inj k2
  | fl f =>
    obtain ⟨p, C, dx, gs, e1, h1, h2⟩ := h
    obtain ⟨p', C', dx', gs', e2, k1, k2⟩ := k
    rw [e1] at e2
    cases e2
    rw [h1] at k1
    cases k1
    rw [h2] at k2
    exact Option.some.inj k2
theorem PVs.fun : ∀ {π : List PS1} {v w w' : V}, PVs H v π w → PVs H v π w' → w = w'
  | [], v, w, w', h, k => h.trans k.symm
  | s :: π, v, w, w', ⟨u, h1, h2⟩, ⟨u', k1, k2⟩ => by
    have := h1.fun k1
    subst this
    exact PVs.fun h2 k2
theorem PVs.snoc : ∀ {π : List PS1} {s : PS1} {v w x : V}, PVs H v π w → PV H w s x → PVs H v (π ++ [s]) x
  | [], s, v, w, x, h, k => ⟨x, by rw [show w = v from h] at k; exact k, rfl⟩
  | t :: π, s, v, w, x, ⟨u, h1, h2⟩, k => ⟨u, h1, PVs.snoc h2 k⟩
/-- what stands at a path, with its cells -/
structure AtP (K : PySem.W.Frag) (B H : Hp) (σ : L2.St) (ss : En) (fps : List (List Addr)) (i : Nat) (π : List PS1) (m : Nat) (x : D) (s : Sl) (n : Nat) (d : D) (w : V) (fp : List Addr) (v' : V) (fp' : List Addr) : Prop where
  hs : ss[i]? = some s
  hg : slGet s = some (n, d)
  hn : n = m + π.length
  hp : subP d π = some x
  hσ : σ[i]? = some (some w)
  hf : fps[i]? = some fp
  pv : PVs H w π v'
  foc : Foc K B H n w fp m x v' fp' (putP d π)
theorem atP_get {i : Nat} {π : List PS1} {m : Nat} {x : D} (h : atP i ss π = some (m, x)) : ∃ s n d, ss[i]? = some s ∧ slGet s = some (n, d) ∧ n = m + π.length ∧ subP d π = some x ∧ ∀ y, plA i ss π y = ss.set i (slPut s (putP d π y)) := by
  unfold atP at h
  cases hs : ss[i]? with
  | none =>
    rw [hs] at h; cases h
  | some s =>
    rw [hs] at h
    simp only at h
    cases hg : slGet s with
    | none => rw [hg] at h; cases h
    | some nd =>
      obtain ⟨n, d⟩ := nd
      rw [hg] at h
      simp only at h
      split at h
      · rename_i hl
        obtain ⟨y, e, e2⟩ := Option.map_eq_some_iff.mp h
        cases e2
        exact ⟨s, n, d, rfl, hg, by omega, e, fun y => by unfold plA; simp only [hs, hg]⟩
      · cases h
theorem Pi.atP (h : Pi K B σ H ss fps) {i : Nat} {π : List PS1} {m : Nat} {x : D} (e : atP i ss π = some (m, x)) : ∃ s n d w fp v' fp', AtP K B H σ ss fps i π m x s n d w fp v' fp' := by
  obtain ⟨s, n, d, hs, hg, hn, hp, _⟩ := atP_get e
  subst hn
  obtain ⟨o, fp, h1, h2, r⟩ := h.al.get hs
  obtain ⟨w, rfl⟩ : ∃ w, o = some w := by
    cases s with
    | un => cases hg
    | v n' d' => obtain ⟨v, e, _⟩ := r; exact ⟨v, e⟩
    | o w' n' d' => exact ⟨w', r.1⟩
    | s a C fs => cases hg
  obtain ⟨v', fp', q1, q2⟩ := (slGet_ow hg r).focP h.bh (nd_mem h.nd (List.mem_of_getElem? h2)) hp
  exact ⟨s, _, d, w, fp, v', fp', hs, hg, rfl, hp, h1, h2, q1, q2⟩
/-- what stands at a path is changed in place -/
theorem SI.putA (h : SI K B0 H0 B σ H ss fps) {i m n : Nat} {π : List PS1} {x y d : D} {s : Sl} {w v' : V} {fp fp' fp2 : List Addr} (A : AtP K B H σ ss fps i π (m + 1) x s n d w fp v' fp')
    (eq : ∀ a, a ∉ fp' → H' a = H a) (ow2 : Ow K B H' (m + 1) y v' fp2) (hL : isL y = isL x) (nd2 : fp2.Nodup) (fr : ∀ a ∈ fp2, a ∈ fp' ∨ (a ∉ fps.flatten ∧ B a = none ∧ H0 a = none)) :
    ∃ fps', SI K B0 H0 B σ H' (plA i ss π y) fps' := by
  have e : plA i ss π y = ss.set i (slPut s (putP d π y)) := by unfold plA; simp only [A.hs, A.hg]
  rw [e]
  exact h.chgP A.hs A.hσ A.hf A.hg A.foc eq ow2 hL nd2 fr
theorem in_fps {c : List Addr} {i : Nat} (h : fps[i]? = some c) {a : Addr} (ha : a ∈ c) : a ∈ fps.flatten := mem_fl (List.mem_of_getElem? h) ha
theorem putD_ix : ∀ {fs : List (Str × D)} {x : Str}, (∃ (k : Nat) (d : D), fs[k]? = some (x, d) ∧ (∀ e, putD x e fs = fs.set k (x, e)) ∧ ∀ (gs : List (Str × V)) {R : Str × D → Str × V → List Addr → Prop} {c : List (List Addr)}, All3 R fs gs c → (∀ a b c, R a b c → a.1 = b.1) → ∀ v, putF x v gs = gs.set k (x, v)) ∨
    ((∀ e, putD x e fs = fs ++ [(x, e)]) ∧ ∀ (gs : List (Str × V)) {R : Str × D → Str × V → List Addr → Prop} {c : List (List Addr)}, All3 R fs gs c → (∀ a b c, R a b c → a.1 = b.1) → ∀ v, putF x v gs = gs ++ [(x, v)])
  | [], x => .inr ⟨fun e => rfl, fun gs R c al _ v => by cases al; rfl⟩
  | (g, e) :: fs, x => by
    by_cases hg : g = x
    · subst hg
      refine .inl ⟨0, e, rfl, fun e => by unfold putD; rw [if_pos rfl]; rfl, fun gs R c al hR v => ?_⟩
      cases al with
      | cons r t =>
        rename_i b _ _ _
        obtain ⟨m, w⟩ := b
        have := hR _ _ _ r
        cases this
        unfold putF
        rw [if_pos rfl]
        rfl
    · rcases putD_ix (fs := fs) (x := x) with ⟨k, d, h1, h2, h3⟩ | ⟨h2, h3⟩
      · refine .inl ⟨k + 1, d, by simpa using h1, fun e => by unfold putD; rw [if_neg hg, h2 e]; rfl, fun gs R c al hR v => ?_⟩
        cases al with
        | cons r t =>
          rename_i b _ _ _
          obtain ⟨m, w⟩ := b
          have := hR _ _ _ r
          cases this
          unfold putF
          rw [if_neg hg, h3 _ t hR v]
          rfl
      · refine .inr ⟨fun e => by unfold putD; rw [if_neg hg, h2 e]; rfl, fun gs R c al hR v => ?_⟩
        cases al with
        | cons r t =>
          rename_i b _ _ _
          obtain ⟨m, w⟩ := b
          have := hR _ _ _ r
          cases this
          unfold putF
          rw [if_neg hg, h3 _ t hR v]
          rfl
/-- a field of the object at a path is set: a frozen value of no owner, or an owned new thing -/
theorem SI.fldA (h : SI K B0 H0 B σ H ss fps) {i m l : Nat} {π : List PS1} {C : Addr} {fs : List (Str × D)} (e : atP i ss π = some (m + 1, .ob C fs)) {x : Str} {d : D} {v : V} {fp2 : List Addr} {Hx : Hp} (nw : New K Hx B H l d v fp2) (hl : (isL d = true ∧ l = m) ∨ (isL d = false ∧ l = 0)) (hx : ∀ a ∈ fps.flatten, Hx a ≠ none) (h0 : Le H0 Hx) :
    ∃ w q dx gs fps', σ[i]? = some (some w) ∧ PVs H w π (.ref q) ∧ H q = some (.ins C dx gs) ∧ fs.length = gs.length ∧ SI K B0 H0 B σ (upd H q (.ins C dx (putF x v gs))) (plA i ss π (.ob C (putD x d fs))) fps' := by
  obtain ⟨s, n, d0, w, fp, v', fp', A⟩ := h.pi.atP e
  obtain ⟨_, _, _, _, z, _⟩ | ⟨_, _, _, _, z, _⟩ | ⟨C', fs', q, dx, gs, fpc, e1, e2, e3, e4, al⟩ | ⟨_, _, _, _, z, _⟩ | ⟨_, _, _, _, z, _⟩ | ⟨z, _⟩ := A.foc.ow
  case inl => cases z
  case inr.inl => cases z
  case inr.inr.inr.inl => cases z
  case inr.inr.inr.inr.inl => cases z
  case inr.inr.inr.inr.inr => cases z
  cases e1
  subst e2 e4
  obtain ⟨n1, n2⟩ := List.nodup_cons.mp A.foc.nd
  have inn : ∀ a ∈ q :: fpc.flatten, a ∈ fps.flatten := fun a ha => in_fps A.hf (A.foc.sub a ha)
  have fresh : ∀ a ∈ fp2, a ∉ fps.flatten := fun a ha z => hx a z (nw.fr a ha).2
  have keep : ∀ a, a ≠ q → upd H q (.ins C dx (putF x v gs)) a = H a := fun a ha => upd_ne ha
  have new1 : (isL d = true ∧ Ow K B (upd H q (.ins C dx (putF x v gs))) m d v fp2) ∨ (isL d = false ∧ fp2 = [] ∧ Rep K B d v) := by
    rcases hl with ⟨a1, rfl⟩ | ⟨a1, rfl⟩
    · exact .inl ⟨a1, nw.ow.mono (Le.refl B) fun y hy => keep y fun z => fresh y hy (inn y (by rw [z]; exact List.mem_cons_self))⟩
    · exact .inr ⟨a1, nw.ow.1, nw.ow.2⟩
  have olds : ∀ (j : Nat) (a : Str × D) (b : Str × V) c, fpc[j]? = some c → (a.1 = b.1 ∧ ((isL a.2 = true ∧ Ow K B H m a.2 b.2 c) ∨ (isL a.2 = false ∧ c = [] ∧ Rep K B a.2 b.2))) → (a.1 = b.1 ∧ ((isL a.2 = true ∧ Ow K B (upd H q (.ins C dx (putF x v gs))) m a.2 b.2 c) ∨ (isL a.2 = false ∧ c = [] ∧ Rep K B a.2 b.2))) :=
    fun j a b c hc r => ⟨r.1, r.2.imp (fun r => ⟨r.1, r.2.mono (Le.refl B) fun y hy => keep y fun z => n1 (by rw [← z]; exact mem_fl (List.mem_of_getElem? hc) hy)⟩) id⟩
  have go : ∀ fpn : List (List Addr), All3 (fun (d : Str × D) (u : Str × V) fp => d.1 = u.1 ∧ ((isL d.2 = true ∧ Ow K B (upd H q (.ins C dx (putF x v gs))) m d.2 u.2 fp) ∨ (isL d.2 = false ∧ fp = [] ∧ Rep K B d.2 u.2))) (putD x d fs) (putF x v gs) fpn → fpn.flatten.Nodup → (∀ a ∈ fpn.flatten, a ∈ fpc.flatten ∨ a ∈ fp2) → ∃ fps', SI K B0 H0 B σ (upd H q (.ins C dx (putF x v gs))) (plA i ss π (.ob C (putD x d fs))) fps' := by
    intro fpn al2 nd2 mem
    refine h.putA (y := .ob C (putD x d fs)) (fp2 := q :: fpn.flatten) A (fun a ha => keep a fun z => ha (by rw [z]; exact List.mem_cons_self)) (.inr (.inr (.inl ⟨C, _, q, dx, _, fpn, rfl, rfl, upd_same, rfl, al2⟩))) rfl (List.nodup_cons.mpr ⟨fun z => ?_, nd2⟩) fun a ha => ?_
    · rcases mem q z with u | u
      · exact n1 u
      · exact fresh q u (inn q List.mem_cons_self)
    · rcases List.mem_cons.mp ha with z | z
      · exact .inl (by rw [z]; exact List.mem_cons_self)
      · rcases mem a z with u | u
        · exact .inl (List.mem_cons_of_mem _ u)
        · exact .inr ⟨fresh a u, (nw.fr a u).1, h0.back (nw.fr a u).2⟩
  rcases putD_ix (fs := fs) (x := x) with ⟨k, dk, h1, h2, h3⟩ | ⟨h2, h3⟩
  · obtain ⟨fps', r⟩ := go (fpc.set k fp2) (by
      rw [h2 d, h3 gs al (fun a b c r => r.1) v]
      exact all3_ixset al (fun j a b c _ hc r => by
        have z := olds j a b c hc r
        rw [h3 gs al (fun a b c r => r.1) v] at z
        exact z) ⟨rfl, by
        have z := new1
        rw [h3 gs al (fun a b c r => r.1) v] at z
        exact z⟩) (nodup_set n2 nw.nd k (fun _ _ => True.intro) fun a ha c hc hac => absurd (inn a (List.mem_cons_of_mem _ (mem_fl hc hac))) (fresh a ha)) fun a ha => mem_set_fl ha
    exact ⟨w, q, dx, gs, fps', A.hσ, A.pv, e3, al.len1, r⟩
  · obtain ⟨fps', r⟩ := go (fpc ++ [fp2]) (by
      rw [h2 d, h3 gs al (fun a b c r => r.1) v]
      refine All3.append (all3_ix al fun j a b c hc r => by
        have z := olds j a b c hc r
        rw [h3 gs al (fun a b c r => r.1) v] at z
        exact z) (.cons ⟨rfl, by
        have z := new1
        rw [h3 gs al (fun a b c r => r.1) v] at z
        exact z⟩ .nil)) (by
      rw [flatten_app1]
      exact List.nodup_append.mpr ⟨n2, nw.nd, fun a ha b hb e => by subst e; exact fresh a hb (inn a (List.mem_cons_of_mem _ ha))⟩) fun a ha => by
        rw [flatten_app1] at ha
        exact List.mem_append.mp ha
    exact ⟨w, q, dx, gs, fps', A.hσ, A.pv, e3, al.len1, r⟩
end
end Mv
/-! Paths as expressions; statements that change what stands at a path: the rules. -/
namespace Mv
open PySem L2
/-- what is owned l deep may be taken as owned m deep -/
def up : Nat → Nat → D → Bool
  | 0, m, d => m == 0 || isA d
  | _ + 1, 0, _ => false
  | l + 1, m + 1, d => l == m || isA d || (match d with
    | .lst ds => ds.all (up l m)
    | .ob _ fs => fs.all fun p => !isL p.2 || up l m p.2
    | _ => false)
theorem Ow.up {K : PySem.W.Frag} {B H : Hp} : ∀ {l m : Nat} {d : D} {v : V} {fp : List Addr}, Mv.up l m d = true → Ow K B H l d v fp → Ow K B H m d v fp
  | 0, m, d, v, fp, u, h => by
    unfold Mv.up at u
    rcases Bool.or_eq_true_iff.mp u with e | e
    · have e := eq_of_beq e
      subst e
      exact h
    · have := Ow.ofA (H := H) e h.2 m
      rw [h.1]
      exact this
  | l + 1, 0, d, v, fp, u, h => by unfold Mv.up at u; cases u
  | l + 1, m + 1, d, v, fp, u, h => by
    unfold Mv.up at u
    rcases Bool.or_eq_true_iff.mp u with u1 | u2
    · rcases Bool.or_eq_true_iff.mp u1 with e | e
      · have e := eq_of_beq e
        subst e
        exact h
      · obtain ⟨_, _, _, _, z, _⟩ | ⟨_, _, _, _, z, _⟩ | ⟨_, _, _, _, _, _, z, _⟩ | ⟨_, _, _, _, z, _⟩ | ⟨_, _, _, _, z, _⟩ | z := h
        case inr.inr.inr.inr.inr => exact .inr (.inr (.inr (.inr (.inr z))))
        all_goals (subst z; cases e)
    · clear u
      cases d <;> first | cases u2 | skip
      · rename_i ds
        obtain ⟨ds', p, xs, fps, e1, e2, e3, e4, al⟩ := h.lstO
        cases e1
        refine .inl ⟨ds, p, xs, fps, rfl, e2, e3, e4, ?_⟩
        have hu : ∀ d ∈ ds, Mv.up l m d = true := fun d hd => List.all_eq_true.mp u2 d hd
        clear h u2 e3 e4
        induction al with
        | nil => exact .nil
        | cons r t ih => exact .cons (r.up (hu _ List.mem_cons_self)) (ih fun d hd => hu d (List.mem_cons_of_mem _ hd))
      · rename_i C fs
        obtain ⟨_, _, _, _, z, _⟩ | ⟨_, _, _, _, z, _⟩ | ⟨C', fs', p, dx, gs, fps, e1, e2, e3, e4, al⟩ | ⟨_, _, _, _, z, _⟩ | ⟨_, _, _, _, z, _⟩ | ⟨z, _⟩ := h
        case inl => cases z
        case inr.inl => cases z
        case inr.inr.inr.inl => cases z
        case inr.inr.inr.inr.inl => cases z
        case inr.inr.inr.inr.inr => cases z
        cases e1
        refine .inr (.inr (.inl ⟨C, fs, p, dx, gs, fps, rfl, e2, e3, e4, ?_⟩))
        have hu : ∀ q ∈ fs, (!isL q.2 || Mv.up l m q.2) = true := fun q hq => List.all_eq_true.mp u2 q hq
        clear u2 e3 e4
        induction al with
        | nil => exact .nil
        | cons r t ih =>
          refine .cons ⟨r.1, r.2.imp (fun q => ⟨q.1, ?_⟩) id⟩ (ih fun d hd => hu d (List.mem_cons_of_mem _ hd))
          have z := hu _ List.mem_cons_self
          rw [q.1] at z
          exact q.2.up z
theorem New.up {K : PySem.W.Frag} {B H Hx : Hp} {l m : Nat} {d : D} {v : V} {fp : List Addr} (u : Mv.up l m d = true) (h : New K Hx B H l d v fp) : New K Hx B H m d v fp := ⟨h.ow.up u, h.nd, h.fr⟩
theorem New.fit {K : PySem.W.Frag} {B H Hx : Hp} {l m : Nat} {d : D} {v : V} {fp : List Addr} (u : (isL d = true ∧ Mv.up l m d = true) ∨ (isL d = false ∧ l = 0)) (h : New K Hx B H l d v fp) : ∃ l', New K Hx B H l' d v fp ∧ ((isL d = true ∧ l' = m) ∨ (isL d = false ∧ l' = 0)) := by
  rcases u with ⟨a, b⟩ | ⟨a, b⟩
  · exact ⟨m, h.up b, .inl ⟨a, rfl⟩⟩
  · exact ⟨l, h, .inr ⟨a, b⟩⟩
/-- PATH.x = e -/
def sSetFP (i : Nat) (C : Addr) (x : Str) (g : GP) (f : EB) : SM := fun ss => match f ss with
  | .ok (l, d) => (match g ss with
    | .ok π => (match atP i ss π with
      | some (m + 1, .ob C' fs) => if C' = C ∧ fs.length < 1000 ∧ ((isL d = true ∧ up l m d = true) ∨ (isL d = false ∧ l = 0)) then .nx (plA i ss π (.ob C' (putD x d fs))) else .no
      | _ => .no)
    | _ => .no)
  | .exc e => .exc e ss
  | .no => .no
section
variable {X : Cx} {W : WX} {e a b o : Expr} {pos p p2 : Pos} {f f1 fi : EB} {g : GP}
theorem p_var (i : Nat) {x : Str} (hN : X.N[i]? = some x := by rfl) (hv : Vis X.env.scope x := by first | exact Or.inl rfl | exact Or.inr (Or.inl rfl) | exact Or.inr (Or.inr rfl)) (hd : (x == ("__debug__" : Str)) = false := by decide)
    (hcd : (x == ("__classdict__" : Str)) = false := by decide) : PE X (.Name x pos) (tPth X.K W i (gVar i)) := by
  refine pe_w (pe_var hN hv hd hcd) fun σ H Q hq => ?_
  obtain ⟨B, ss, fps, pi, k⟩ := hq
  unfold gVar at k
  cases h : atP i ss [] with
  | none => simp only [h] at k
  | some r =>
    obtain ⟨m, x⟩ := r
    simp only [h] at k
    obtain ⟨s, n, d, w, fp, v', fp', A⟩ := pi.atP h
    exact ⟨w, A.hσ, k B w H (.refl pi.bh) ⟨w, A.hσ, rfl⟩⟩
theorem p_ix {i : Nat} (ho : PE X o (tPth X.K W i g)) (hb : PE X b (tB X.K W fi)) (hp : PlainIx b := by exact fun _ _ => rfl) : PE X (.Subscript o b pos) (tPth X.K W i (gIx i g fi)) := by
  refine pe_w (pe_ix ix_seq ho hb hp) fun σ H Q hq => ?_
  obtain ⟨B, ss, fps, pi, k⟩ := hq
  refine ⟨B, ss, fps, pi, ?_⟩
  unfold gIx at k
  cases hg : g ss with
  | exc e => simp only [hg] at k; exact k
  | no => simp only [hg] at k
  | ok π =>
    simp only [hg] at k
    intro B1 v H1 s1 ⟨w, hw, pv⟩
    refine ⟨B1, ss, fps, pi.step s1, ?_⟩
    cases hf : fi ss with
    | exc e => simp only [hf] at k; exact fun B' cls dd H' st ex => k B' cls dd H' (s1.trans st) ex
    | no => simp only [hf] at k
    | ok r =>
      obtain ⟨n0, dk⟩ := r
      simp only [hf] at k
      intro B2 y H2 s2 bY
      cases dk <;> first | exact k.elim | skip
      rename_i z
      simp only at k
      have ey := bY.flat (B' := B2) rfl
      rw [Rep] at ey
      subst ey
      have pi2 := (pi.step s1).step s2
      cases hs : stI (atP i ss π) z with
      | none => simp only [hs] at k
      | some j =>
        simp only [hs] at k
        unfold stI at hs
        split at hs
        · rename_i m ds ha
          obtain ⟨s, n, d, w', fp, v', fp', A⟩ := pi2.atP ha
          have ew := A.hσ
          rw [hw] at ew
          cases ew
          have ev : v = v' := (pv.le s2.hh).fun A.pv
          subst ev
          obtain ⟨ds', q, xs, fpc, e1, e2, e3, _, al⟩ := A.foc.ow.lstO
          cases e1
          subst e2
          have hl := al.len1
          have hjl : j < xs.length := by
            unfold ixN at hs
            split at hs
            · split at hs
              · cases hs; omega
              · cases hs
            · split at hs
              · cases hs; omega
              · cases hs
          refine .inl ⟨q, xs, z, xs[j], rfl, rfl, SqL.of e3, ?_, k B2 _ H2 (s1.trans s2) ⟨w, hw, A.pv.snoc ⟨q, xs, rfl, .inl e3, List.getElem?_eq_getElem hjl⟩⟩⟩
          unfold atI
          rw [← hl, hs]
          exact List.getElem?_eq_getElem hjl
        · rename_i m ds ha
          obtain ⟨s, n, d, w', fp, v', fp', A⟩ := pi2.atP ha
          have ew := A.hσ
          rw [hw] at ew
          cases ew
          have ev : v = v' := (pv.le s2.hh).fun A.pv
          subst ev
          split at hs
          · rename_i j0 hj
            split at hs
            · rename_i d0 hd0
              split at hs
              · cases hs
                obtain ⟨_, _, _, _, z0, _⟩ | ⟨ds', q, xs, fpc, e1, e2, e3, e4, al⟩ | ⟨_, _, _, _, _, _, z0, _⟩ | ⟨_, _, _, _, z0, _⟩ | ⟨_, _, _, _, z0, _⟩ | ⟨z0, _⟩ := A.foc.ow
                case inl => cases z0
                case inr.inr.inl => cases z0
                case inr.inr.inr.inl => cases z0
                case inr.inr.inr.inr.inl => cases z0
                case inr.inr.inr.inr.inr => cases z0
                cases e1
                subst e2
                have hl := al.len1
                have hjl : j < xs.length := by rw [← hl]; exact (List.getElem?_eq_some_iff.mp hd0).1
                have tx : TX H2 q xs := s2.bh.tx e3
                refine .inr (.inl ⟨q, xs, z, xs[j], rfl, rfl, tx.sqT, ?_, k B2 _ H2 (s1.trans s2) ⟨w, hw, A.pv.snoc ⟨q, xs, rfl, .inr tx, List.getElem?_eq_getElem hjl⟩⟩⟩)
                unfold atI
                rw [← hl, hj]
                exact List.getElem?_eq_getElem hjl
              · cases hs
            · cases hs
          · cases hs
        · cases hs
theorem obO {K : PySem.W.Frag} {B H : Hp} {m : Nat} {C : Addr} {fs : List (Str × D)} {v : V} {fp : List Addr} (h : Ow K B H (m + 1) (.ob C fs) v fp) : ∃ p dx gs fps, v = .ref p ∧ H p = some (.ins C dx gs) ∧ fp = p :: fps.flatten ∧ All3 (fun (d : Str × D) (v : Str × V) fp => d.1 = v.1 ∧ ((isL d.2 = true ∧ Ow K B H m d.2 v.2 fp) ∨ (isL d.2 = false ∧ fp = [] ∧ Rep K B d.2 v.2))) fs gs fps := by
  obtain ⟨_, _, _, _, z, _⟩ | ⟨_, _, _, _, z, _⟩ | ⟨C', fs', q, dx, gs, fpc, e1, e2, e3, e4, al⟩ | ⟨_, _, _, _, z, _⟩ | ⟨_, _, _, _, z, _⟩ | ⟨z, _⟩ := h
  case inl => cases z
  case inr.inl => cases z
  case inr.inr.inr.inl => cases z
  case inr.inr.inr.inr.inl => cases z
  case inr.inr.inr.inr.inr => cases z
  cases e1
  exact ⟨q, dx, gs, fpc, e2, e3, e4, al⟩
/-- a field of an object, owned or frozen -/
theorem ob_look {K : PySem.W.Frag} {B H : Hp} (eBH : Le B H) {m : Nat} {C : Addr} {fs : List (Str × D)} {v : V} {fp : List Addr} (h : Ow K B H m (.ob C fs) v fp) {x : Str} {d : D} (hl : fs.lookup x = some d) :
    ∃ p dx gs u, v = .ref p ∧ H p = some (.ins C dx gs) ∧ gs.lookup x = some u ∧ Bw K B H (if isL d = true then m - 1 else 0) d u := by
  cases m with
  | zero =>
    obtain ⟨_, h⟩ := h
    rw [Rep] at h
    obtain ⟨a, dx, gs, rfl, h1, h2⟩ := h
    obtain ⟨u, g1, g2⟩ := h2.look hl
    refine ⟨a, dx, gs, u, rfl, eBH _ _ h1, g1, ?_⟩
    split
    · exact bw0 g2
    · exact bw0 g2
  | succ m =>
    obtain ⟨p, dx, gs, fps, rfl, h1, _, al⟩ := obO h
    obtain ⟨k, k1, k2, k3⟩ := fIx_at hl
    obtain ⟨y, c, g1, g2, g0, g3⟩ := al.get k1
    refine ⟨p, dx, gs, y.2, rfl, h1, k3 gs al (fun a b c r => r.1) y g1, ?_⟩
    rcases g3 with q | q
    · rw [if_pos q.1]
      exact q.2.bw
    · rw [if_neg (by rw [q.1]; simp)]
      exact bw0 q.2.2
theorem s_setFP {i : Nat} {C : Addr} {x : Str} {pos' : Pos} {value : Expr} (c : Cls X.K C) (n : NoAttr X.K C x) (ho : PE X o (tPth X.K W i g)) (hv : PE X value (tM X.K W f)) (hs : swapsWith value (some (.Attribute o x pos')) pos.line X.env = pure false := by rfl) :
    PS X (.Assign [.Attribute o x pos'] value pos) (tS X.K W (sSetFP i C x g f)) := by
  refine ps_w (ps_fld ho hv hs) fun E σ H hq => ?_
  obtain ⟨B0, H0, B, ss, fps, si, k⟩ := tS_get hq
  refine ⟨B, ss, fps, si.pi, ?_⟩
  unfold sSetFP at k
  cases hf : f ss with
  | exc e => simp only [hf] at k; exact fun B' cls dd H' st ex => k B' σ H' fps cls dd (si.step st) ex
  | no => simp only [hf] at k; exact k.elim
  | ok r =>
    obtain ⟨l, d⟩ := r
    simp only [hf] at k
    intro B1 v H1 fp2 s1 nw
    refine ⟨B1, ss, fps, (si.step s1).pi, ?_⟩
    cases hg : g ss with
    | exc e => simp only [hg] at k; exact k.elim
    | no => simp only [hg] at k; exact k.elim
    | ok π =>
      simp only [hg] at k
      intro B2 ov H2 s2 ⟨w, hw, pv⟩
      split at k
      · rename_i m C' fs ha
        split at k
        · rename_i hc
          obtain ⟨rfl, hlen, hL⟩ := hc
          have si2 := (si.step s1).step s2
          obtain ⟨l', nw', hL'⟩ := (nw.step s2).fit hL
          obtain ⟨w', q, dx, gs, fps', g1, g2, g3, g4, g5⟩ := si2.fldA (x := x) ha nw' hL' (fun a ha => by obtain ⟨ys, e⟩ := (si.pi.here a ha).some; rw [e]; exact fun z => nomatch z) si.st.hh
          rw [hw] at g1
          cases g1
          have ev := pv.fun g2
          subst ev
          exact ⟨q, C', dx, gs, rfl, g3, c, n, by rw [← g4]; exact hlen, k B2 σ _ fps' g5⟩
        · exact k.elim
      · exact k.elim
end
end Mv
/-! Calls that lend what stands at paths of slots: the arguments, what comes back. -/
namespace Mv
open PySem L2
/-- an argument: a frozen value, or what stands at a path of a slot -/
inductive AG where
  | fz (d : D) | ln (i : Nat) (π : List PS1)
abbrev GA := En → Res (List AG)
def gNil : GA := fun _ => .ok []
def gFz (f : EB) (g : GA) : GA := fun ss => match f ss with
  | .ok (n, d) => if n = 0 ∨ isA d = true then (match g ss with
    | .ok as => .ok (.fz d :: as)
    | .exc e => .exc e
    | .no => .no) else .no
  | .exc e => .exc e
  | .no => .no
def gLn (i : Nat) (p : GP) (g : GA) : GA := fun ss => match p ss with
  | .ok π => (match g ss with
    | .ok as => .ok (.ln i π :: as)
    | .exc e => .exc e
    | .no => .no)
  | .exc e => .exc e
  | .no => .no
def AgOk (K : PySem.W.Frag) (B H : Hp) (σ : L2.St) : List AG → List V → Prop
  | [], [] => True
  | .fz d :: as, v :: vs => Rep K B d v ∧ AgOk K B H σ as vs
  | .ln i π :: as, v :: vs => (∃ w, σ[i]? = some (some w) ∧ PVs H w π v) ∧ AgOk K B H σ as vs
  | _, _ => False
def tGA (K : PySem.W.Frag) (W : WX) (g : GA) : TA := fun σ H Q => ∃ B ss fps, Pi K B σ H ss fps ∧ match g ss with
  | .ok as => ∀ B' vs H', Stp B H B' H' → AgOk K B' H' σ as vs → Q vs H'
  | .exc e => ∀ B' cls dd H', Stp B H B' H' → ExR K B' H' e cls dd → W cls dd σ H'
  | .no => False
section
variable {X : Cx} {W : WX} {e : Expr} {es : List Expr} {f : EB} {g : GA} {p : GP}
theorem ga_nil : PA X [] (tGA X.K W gNil) := by
  refine pa_w pa_nil fun σ H Q hq => ?_
  obtain ⟨B, ss, fps, pi, k⟩ := hq
  exact k B [] H (.refl pi.bh) True.intro
theorem ga_fz (ha : PE X e (tB X.K W f)) (hr : PA X es (tGA X.K W g)) (hs : starEach (e :: es) X.env = (false, eval e X.env) :: starEach es X.env := by rfl) : PA X (e :: es) (tGA X.K W (gFz f g)) := by
  refine pa_w (pa_cons ha hr hs) fun σ H Q hq => ?_
  obtain ⟨B, ss, fps, pi, k⟩ := hq
  refine ⟨B, ss, fps, pi, ?_⟩
  unfold gFz at k
  cases h : f ss with
  | exc e => simp only [h] at k; exact k
  | no => simp only [h] at k
  | ok r =>
    obtain ⟨n, d⟩ := r
    simp only [h] at k
    by_cases hn : n = 0 ∨ isA d = true
    · rw [if_pos hn] at k
      intro B1 v H1 s1 bw
      have rv : Rep X.K B1 d v := by
        rcases hn with rfl | hn
        · exact bw.rep
        · exact bw.repA hn
      refine ⟨B1, ss, fps, pi.step s1, ?_⟩
      cases hg : g ss with
      | exc e => simp only [hg] at k; exact fun B' cls dd H' st ex => k B' cls dd H' (s1.trans st) ex
      | no => simp only [hg] at k
      | ok as =>
        simp only [hg] at k
        exact fun B' vs H' st r => k B' (v :: vs) H' (s1.trans st) ⟨Rep.mono st.bb _ _ rv, r⟩
    · rw [if_neg hn] at k; exact k.elim
theorem ga_ln (i : Nat) (ha : PE X e (tPth X.K W i p)) (hr : PA X es (tGA X.K W g)) (hs : starEach (e :: es) X.env = (false, eval e X.env) :: starEach es X.env := by rfl) : PA X (e :: es) (tGA X.K W (gLn i p g)) := by
  refine pa_w (pa_cons ha hr hs) fun σ H Q hq => ?_
  obtain ⟨B, ss, fps, pi, k⟩ := hq
  refine ⟨B, ss, fps, pi, ?_⟩
  unfold gLn at k
  cases h : p ss with
  | exc e => simp only [h] at k; exact k
  | no => simp only [h] at k
  | ok π =>
    simp only [h] at k
    intro B1 v H1 s1 ⟨w, hw, pv⟩
    refine ⟨B1, ss, fps, pi.step s1, ?_⟩
    cases hg : g ss with
    | exc e => simp only [hg] at k; exact fun B' cls dd H' st ex => k B' cls dd H' (s1.trans st) ex
    | no => simp only [hg] at k
    | ok as =>
      simp only [hg] at k
      exact fun B' vs H' st r => k B' (v :: vs) H' (s1.trans st) ⟨⟨w, hw, pv.le st.hh⟩, r⟩
end
def idxs : List AG → List Nat
  | [] => []
  | .fz _ :: as => idxs as
  | .ln i _ :: as => i :: idxs as
/-- what the callee is handed -/
def dsA (ss : En) : Md → List AG → Option (List D)
  | [], [] => some []
  | none :: ms, .fz d :: as => (dsA ss ms as).map (d :: ·)
  | some _ :: ms, .fz d :: as => if isA d = true then (dsA ss ms as).map (d :: ·) else none
  | some m :: ms, .ln i π :: as => (match atP i ss π with
    | some (k, x) => if k = m + 1 then (dsA ss ms as).map (x :: ·) else none
    | none => none)
  | _, _ => none
def slA (i : Nat) (ss : En) (π : List PS1) (x : D) : Sl := match ss[i]? with
  | some s => (match slGet s with
    | some (_, d) => slPut s (putP d π x)
    | none => s)
  | none => .un
/-- what was lent is put back, changed -/
def putA (ss : En) : List AG → List D → En → Option En
  | [], _, acc => some acc
  | .fz _ :: as, _ :: ds, acc => putA ss as ds acc
  | .ln i π :: as, d :: ds, acc => (match atP i ss π with
    | some (_, x) => if isL d = isL x then putA ss as ds (acc.set i (slA i ss π d)) else none
    | none => none)
  | _ :: _, [], _ => none
/-- what an expression tells that changes the slots -/
inductive OX where
  | ok (n : Nat) (d : D) (ss : En) | exc (e : Exo) (ss : En) | no
abbrev EX := En → OX
/-- behind the call -/
def finA (ss : En) (as : List AG) : OV → OX
  | .ok n d ds' => (match putA ss as ds' ss with
    | some ss' => .ok n d ss'
    | none => .no)
  | .exc e ds' => (match putA ss as ds' ss with
    | some ss' => .exc e ss'
    | none => .no)
  | .no => .no
/-- behind the making of an instance -/
def finMk (ss : En) (as : List AG) (m0 : Nat) : OV → OX
  | .ok 0 .non (d' :: ds') => (match putA ss as ds' ss with
    | some ss' => .ok (m0 + 1) d' ss'
    | none => .no)
  | .exc e (_ :: ds') => (match putA ss as ds' ss with
    | some ss' => .exc e ss'
    | none => .no)
  | _ => .no
def eLend (ms : Md) (m : FV) (g : GA) : EX := fun ss => match g ss with
  | .ok as => if (idxs as).Nodup then (match dsA ss ms as with
    | some ds => finA ss as (m ds)
    | none => .no) else .no
  | .exc e => .exc e ss
  | .no => .no
/-- C(..) -/
def eMake (C : Addr) (m0 : Nat) (ms : Md) (m : FV) (g : GA) : EX := fun ss => match g ss with
  | .ok as => if (idxs as).Nodup then (match dsA ss ms as with
    | some ds => finMk ss as m0 (m (.ob C [] :: ds))
    | none => .no) else .no
  | .exc e => .exc e ss
  | .no => .no
section
variable {K : PySem.W.Frag} {B0 H0 B B' H H' : Hp} {σ : L2.St} {ss : En} {fps : List (List Addr)}
theorem lend_prep (si : SI K B0 H0 B σ H ss fps) : ∀ {as : List AG} {ms : Md} {vs : List V} {ds : List D}, AgOk K B H σ as vs → dsA ss ms as = some ds →
    ms.length = vs.length ∧ ∃ (cs : List (List Addr)) (L : List LN), All3 (slotOk K B H) (envV ms vs ds) (vs.map some) cs ∧ L.map (·.i) = idxs as ∧ (L.map (·.fp')).flatten = cs.flatten ∧ (∀ x ∈ L, x.Ok K B H ss σ fps) ∧
      ∀ (B' H' : Hp) ds' cs' ss' acc, AftV K B' H' ms vs ds' cs' → putA ss as ds' acc = some ss' → ∃ L' : List LN, L'.map (·.i) = idxs as ∧ L'.map (·.fp') = L.map (·.fp') ∧ (∀ x ∈ L', x.Ok K B H ss σ fps) ∧ (∀ x ∈ L', x.New K B' H') ∧
        (L'.map (·.fp2)).flatten.Sublist cs'.flatten ∧ setAll (fun x => slPut x.s (x.put x.d2)) L' acc = ss'
  | [], [], [], ds, _, h => by
    cases h
    refine ⟨rfl, [], [], .nil, rfl, rfl, fun x hx => (nomatch hx), fun B' H' ds' cs' ss' acc af e => ?_⟩
    cases e
    exact ⟨[], rfl, rfl, fun x hx => (nomatch hx), fun x hx => (nomatch hx), List.nil_sublist _, rfl⟩
  | [], _ :: _, _, _, _, h => by simp [dsA] at h
  | [], [], _ :: _, _, a, _ => a.elim
  | .fz d :: as, [], _, _, _, h => by simp [dsA] at h
  | .fz d :: as, m :: ms, [], _, a, _ => a.elim
  | .fz d :: as, m :: ms, v :: vs, ds, a, h => by
    cases m with
    | none =>
      obtain ⟨ds1, h1, rfl⟩ := Option.map_eq_some_iff.mp h
      obtain ⟨hl, cs, L, q1, q2, q3, q4, q5⟩ := lend_prep si a.2 h1
      refine ⟨by rw [List.length_cons, List.length_cons, hl], [] :: cs, L, .cons ⟨v, rfl, rfl, a.1⟩ q1, q2, q3, q4, fun B' H' ds' cs' ss' acc af e => ?_⟩
      cases ds' with
      | nil => cases cs' <;> exact af.elim
      | cons d' ds' =>
        cases cs' with
        | nil => exact af.elim
        | cons c cs' =>
          obtain ⟨_, rfl, af⟩ := af
          exact q5 B' H' ds' cs' ss' acc af e
    | some m =>
      have h' : (if isA d = true then (dsA ss ms as).map (d :: ·) else none) = some ds := h
      by_cases hA : isA d = true
      · rw [if_pos hA] at h'
        obtain ⟨ds1, h1, rfl⟩ := Option.map_eq_some_iff.mp h'
        obtain ⟨hl, cs, L, q1, q2, q3, q4, q5⟩ := lend_prep si a.2 h1
        refine ⟨by rw [List.length_cons, List.length_cons, hl], [] :: cs, L, .cons ⟨rfl, Ow.ofA hA a.1 (m + 1)⟩ q1, q2, q3, q4, fun B' H' ds' cs' ss' acc af e => ?_⟩
        cases ds' with
        | nil => cases cs' <;> exact af.elim
        | cons d' ds' =>
          cases cs' with
          | nil => exact af.elim
          | cons c cs' =>
            obtain ⟨_, af⟩ := af
            obtain ⟨L', w1, w2, w3, w4, w5, w6⟩ := q5 B' H' ds' cs' ss' acc af e
            exact ⟨L', w1, w2, w3, w4, by rw [List.flatten_cons]; exact w5.trans (List.sublist_append_right _ _), w6⟩
      · rw [if_neg hA] at h'; cases h'
  | .ln i π :: as, [], _, _, _, h => by simp [dsA] at h
  | .ln i π :: as, none :: ms, _, _, _, h => by simp [dsA] at h
  | .ln i π :: as, some m :: ms, [], _, a, _ => a.elim
  | .ln i π :: as, some m :: ms, v :: vs, ds, a, h => by
    have h' : (match atP i ss π with
      | some (k, x) => if k = m + 1 then (dsA ss ms as).map (x :: ·) else none
      | none => none) = some ds := h
    cases hat : atP i ss π with
    | none => rw [hat] at h'; cases h'
    | some r =>
      obtain ⟨k, x⟩ := r
      rw [hat] at h'
      simp only at h'
      by_cases hk : k = m + 1
      · subst hk
        rw [if_pos rfl] at h'
        obtain ⟨ds1, h1, rfl⟩ := Option.map_eq_some_iff.mp h'
        obtain ⟨hl, cs, L, q1, q2, q3, q4, q5⟩ := lend_prep si a.2 h1
        obtain ⟨s, n, d, w, fp, v', fp', A⟩ := si.pi.atP hat
        obtain ⟨⟨w2, hw, pv⟩, _⟩ := a
        have ew := A.hσ
        rw [hw] at ew
        cases ew
        have ev := pv.fun A.pv
        subst ev
        refine ⟨by rw [List.length_cons, List.length_cons, hl], fp' :: cs, ⟨i, w, s, n, fp, m, x, v, fp', putP d π, x, []⟩ :: L, .cons ⟨rfl, A.foc.ow⟩ q1, by rw [List.map_cons, q2]; rfl, by rw [List.map_cons, List.flatten_cons, q3, List.flatten_cons], fun y hy => ?_, fun B' H' ds' cs' ss' acc af e => ?_⟩
        · obtain rfl | hy := List.mem_cons.mp hy
          · exact ⟨A.hs, hw, A.hf, A.foc, d, A.hg⟩
          · exact q4 y hy
        · cases ds' with
          | nil => cases cs' <;> exact af.elim
          | cons d' ds' =>
            cases cs' with
            | nil => exact af.elim
            | cons c cs' =>
              obtain ⟨ow', af⟩ := af
              have e' : (match atP i ss π with
                | some (_, x) => if isL d' = isL x then putA ss as ds' (acc.set i (slA i ss π d')) else none
                | none => none) = some ss' := e
              rw [hat] at e'
              simp only at e'
              by_cases hL : isL d' = isL x
              · rw [if_pos hL] at e'
                obtain ⟨L', w1, w2', w3, w4, w5, w6⟩ := q5 B' H' ds' cs' ss' _ af e'
                have es : slA i ss π d' = slPut s (putP d π d') := by unfold slA; simp only [A.hs, A.hg]
                refine ⟨⟨i, w, s, n, fp, m, x, v, fp', putP d π, d', c⟩ :: L', by rw [List.map_cons, w1]; rfl, by rw [List.map_cons, List.map_cons, w2'], fun y hy => ?_, fun y hy => ?_, ?_, ?_⟩
                · obtain rfl | hy := List.mem_cons.mp hy
                  · exact ⟨A.hs, hw, A.hf, A.foc, d, A.hg⟩
                  · exact w3 y hy
                · obtain rfl | hy := List.mem_cons.mp hy
                  · exact ⟨ow', hL⟩
                  · exact w4 y hy
                · rw [List.map_cons, List.flatten_cons, List.flatten_cons]
                  exact w5.append_left c
                · rw [setAll]
                  rw [es] at w6
                  exact w6
              · rw [if_neg hL] at e'; cases e'
      · rw [if_neg hk] at h'; cases h'
theorem lent_nodup (si : SI K B0 H0 B σ H ss fps) : ∀ {L : List LN}, (∀ x ∈ L, x.Ok K B H ss σ fps) → (L.map (·.i)).Nodup → (L.map (·.fp')).flatten.Nodup
  | [], _, _ => List.nodup_nil
  | x :: L, ok, nd => by
    rw [List.map_cons] at nd
    rcases List.nodup_cons.mp nd with ⟨n1, n2⟩
    rw [List.map_cons, List.flatten_cons]
    refine List.nodup_append.mpr ⟨(ok x List.mem_cons_self).foc.nd, lent_nodup si (fun y hy => ok y (List.mem_cons_of_mem _ hy)) n2, fun a ha b hb e => ?_⟩
    subst e
    obtain ⟨c, hc, hac⟩ := List.mem_flatten.mp hb
    obtain ⟨y, hy, rfl⟩ := List.mem_map.mp hc
    have oy := ok y (List.mem_cons_of_mem _ hy)
    have ox := ok x List.mem_cons_self
    exact apart_of si.pi.nd ox.hf oy.hf (fun z => n1 (List.mem_map.mpr ⟨y, hy, z⟩)) a (oy.foc.sub a hac) (ox.foc.sub a ha)
theorem lent_in {L : List LN} (ok : ∀ x ∈ L, x.Ok K B H ss σ fps) : ∀ a ∈ (L.map (·.fp')).flatten, a ∈ fps.flatten := fun a ha => by
  obtain ⟨c, hc, hac⟩ := List.mem_flatten.mp ha
  obtain ⟨x, hx, rfl⟩ := List.mem_map.mp hc
  exact mem_fl (List.mem_of_getElem? (ok x hx).hf) ((ok x hx).foc.sub a hac)
/-- a call's lent things, ready for the callee, and back -/
theorem lend_all (si : SI K B0 H0 B σ H ss fps) {as : List AG} {ms : Md} {vs : List V} {ds : List D} (ag : AgOk K B H σ as vs) (nd : (idxs as).Nodup) (hd : dsA ss ms as = some ds) :
    ms.length = vs.length ∧ ∃ cs : List (List Addr), All3 (slotOk K B H) (envV ms vs ds) (vs.map some) cs ∧ cs.flatten.Nodup ∧ (∀ a ∈ cs.flatten, a ∈ fps.flatten) ∧
      ∀ (B' H' : Hp) ds' cs' ss', Stp B (hideH H cs.flatten) B' H' → AftV K B' H' ms vs ds' cs' → cs'.flatten.Nodup → (∀ a ∈ cs'.flatten, B' a = none ∧ hideH H cs.flatten a = none) → putA ss as ds' ss = some ss' →
        ∃ fps', SI K B0 H0 B' σ H' ss' fps' ∧ ∀ a ∈ fps'.flatten, (a ∈ fps.flatten ∧ a ∉ cs.flatten) ∨ a ∈ cs'.flatten := by
  obtain ⟨hl, cs, L, q1, q2, q3, q4, q5⟩ := lend_prep si ag hd
  refine ⟨hl, cs, q1, by rw [← q3]; exact lent_nodup si q4 (by rw [q2]; exact nd), fun a ha => lent_in q4 a (by rw [q3]; exact ha), fun B' H' ds' cs' ss' st af n2 fr e => ?_⟩
  obtain ⟨L', w1, w2, w3, w4, w5, w6⟩ := q5 B' H' ds' cs' ss' ss af e
  have e3 : (L'.map (·.fp')).flatten = cs.flatten := by rw [w2, q3]
  obtain ⟨fps', r, mem⟩ := si.lendL L' w3 (by rw [w1]; exact nd) (by rw [e3]; exact st) w4 (w5.nodup n2) (fun a ha => by rw [e3]; exact fr a (w5.subset ha))
  rw [w6] at r
  exact ⟨fps', r, fun a ha => (mem a ha).imp (fun z => ⟨z.1, by rw [← e3]; exact z.2⟩) fun z => w5.subset z⟩
/-- the call -/
theorem lend_sp {E : XK} {Q : VK} (si : SI K B0 H0 B σ H ss fps) {as : List AG} {ms : Md} {vs : List V} {ds : List D} {m : FV} (ag : AgOk K B H σ as vs) (nd : (idxs as).Nodup) (hd : dsA ss ms as = some ds)
    (k : match m ds with
      | .ok n d ds' => ∃ ss', putA ss as ds' ss = some ss' ∧ ∀ B' v H' fps' fp, SI K B0 H0 B' σ H' ss' fps' → Rw K H0 B' H' n d v fp fps' → Q v H'
      | .exc e ds' => ∃ ss', putA ss as ds' ss = some ss' ∧ ∀ B' cls dd H' fps', SI K B0 H0 B' σ H' ss' fps' → ExR K B' H' e cls dd → E cls dd H'
      | .no => False) : spV K ms m vs H Q E := by
  obtain ⟨hl, cs, q1, q2, q3, q4⟩ := lend_all si ag nd hd
  refine ⟨B, ds, cs, si.pi.bh, hl, q1, q2, fun a ha => si.pi.fr a (q3 a ha), ?_⟩
  have none0 : ∀ a, hideH H cs.flatten a = none → H0 a = none := fun a e => by
    by_cases c : a ∈ cs.flatten
    · exact si.fr a (q3 a c)
    · rw [hide_out c] at e
      exact si.st.hh.back e
  cases hm : m ds with
  | ok n d ds' =>
    simp only [hm] at k
    obtain ⟨ss', e, k⟩ := k
    intro B' v H' cs' fp st af n2 fr rw'
    obtain ⟨fps', r, mem⟩ := q4 B' H' ds' cs' ss' st af n2 fr e
    refine k B' v H' fps' fp r ⟨rw'.ow, rw'.nd, fun a ha => ⟨fun z => ?_, (rw'.fr a ha).2.1, none0 a (rw'.fr a ha).2.2⟩⟩
    rcases mem a z with u | u
    · have h0 := (rw'.fr a ha).2.2
      rw [hide_out u.2] at h0
      obtain ⟨x, hx⟩ := (si.pi.here a u.1).some
      rw [hx] at h0; cases h0
    · exact (rw'.fr a ha).1 u
  | exc e ds' =>
    simp only [hm] at k
    obtain ⟨ss', e2, k⟩ := k
    intro B' cls dd H' cs' st af n2 fr ex
    obtain ⟨fps', r, _⟩ := q4 B' H' ds' cs' ss' st af n2 fr e2
    exact k B' cls dd H' fps' r ex
  | no => simp only [hm] at k
/-- an instance is made -/
theorem lend_mk {E : XK} {Q : VK} (si : SI K B0 H0 B σ H ss fps) {as : List AG} {ms : Md} {vs : List V} {ds : List D} {m : FV} {C a0 dx : Addr} {m0 : Nat} (ag : AgOk K B H σ as vs) (nd : (idxs as).Nodup) (hd : dsA ss ms as = some ds)
    (h1 : H a0 = none) (h2 : H dx = none) (hne : dx ≠ a0)
    (k : match m (.ob C [] :: ds) with
      | .ok 0 .non (d' :: ds') => ∃ ss', putA ss as ds' ss = some ss' ∧ ∀ B' H' fps' fp, SI K B0 H0 B' σ H' ss' fps' → Rw K H0 B' H' (m0 + 1) d' (.ref a0) fp fps' → Q (.ref a0) H'
      | .exc e (_ :: ds') => ∃ ss', putA ss as ds' ss = some ss' ∧ ∀ B' cls dd H' fps', SI K B0 H0 B' σ H' ss' fps' → ExR K B' H' e cls dd → E cls dd H'
      | _ => False) : spV K (some m0 :: ms) m (.ref a0 :: vs) (upd (upd H dx (.own a0)) a0 (.ins C dx [])) (fun v H2 => v = .non ∧ Q (.ref a0) H2) E := by
  obtain ⟨hl, cs, q1, q2, q3, q4⟩ := lend_all si ag nd hd
  have up : Le H (upd (upd H dx (.own a0)) a0 (.ins C dx [])) := by
    refine (Le.new h2).trans (Le.new ?_)
    rw [upd_ne fun z => hne z.symm]
    exact h1
  have old : ∀ a, a ∈ cs.flatten → a ≠ a0 := fun a ha e => by
    obtain ⟨x, hx⟩ := (si.pi.here a (q3 a ha)).some
    rw [e, h1] at hx; cases hx
  have sub : Le (hideH H cs.flatten) (hideH (upd (upd H dx (.own a0)) a0 (.ins C dx [])) ([a0] :: cs).flatten) := fun a o e => by
    by_cases c : a ∈ cs.flatten
    · rw [hide_in c] at e; cases e
    · rw [hide_out c] at e
      rw [hide_out fun z => by
        obtain z | z := List.mem_cons.mp z
        · rw [z, h1] at e; cases e
        · exact c z]
      exact up a o e
  refine ⟨B, .ob C [] :: ds, [a0] :: cs, si.pi.bh.trans up, by rw [List.length_cons, List.length_cons, hl], .cons ⟨rfl, .inr (.inr (.inl ⟨C, [], a0, dx, [], [], rfl, rfl, upd_same, rfl, .nil⟩))⟩ (q1.imp fun a b c hc r => ?_), ?_, fun a ha => ?_, ?_⟩
  · exact r.mono (Le.refl B) fun a ha => by
      obtain ⟨x, hx⟩ := (si.pi.here a (q3 a (mem_fl hc ha))).some
      rw [hx]; exact up a x hx
  · rw [List.flatten_cons]
    exact List.nodup_cons.mpr ⟨fun z => old a0 z rfl, q2⟩
  · rcases List.mem_cons.mp ha with z | z
    · rw [z]; exact si.pi.bh.back h1
    · exact si.pi.fr a (q3 a z)
  have none0 : ∀ a, hideH (upd (upd H dx (.own a0)) a0 (.ins C dx [])) ([a0] :: cs).flatten a = none → hideH H cs.flatten a = none := fun a e => by
    cases h : hideH H cs.flatten a with
    | none => rfl
    | some o => rw [sub a o h] at e; cases e
  have none1 : ∀ a, hideH H cs.flatten a = none → H0 a = none := fun a e => by
    by_cases c : a ∈ cs.flatten
    · exact si.fr a (q3 a c)
    · rw [hide_out c] at e
      exact si.st.hh.back e
  have stp : ∀ {B' H'}, Stp B (hideH (upd (upd H dx (.own a0)) a0 (.ins C dx [])) ([a0] :: cs).flatten) B' H' → Stp B (hideH H cs.flatten) B' H' := fun st => ⟨st.bb, sub.trans st.hh, st.bh, fun a e1 e2 => st.dj a e1 (e2.le sub)⟩
  cases hm : m (.ob C [] :: ds) with
  | ok n d ds' =>
    simp only [hm] at k
    intro B' v H' cs' fp st af n2 fr rw'
    cases ds' with
    | nil => cases cs' <;> exact af.elim
    | cons d' ds' =>
      cases cs' with
      | nil => exact af.elim
      | cons c cs' =>
        cases n with
        | succ n => exact k.elim
        | zero =>
          cases d <;> first | exact k.elim | skip
          obtain ⟨ss', e, k⟩ := k
          obtain ⟨ow', af⟩ := af
          rw [List.flatten_cons] at n2
          obtain ⟨n3, n4, n5⟩ := List.nodup_append.mp n2
          have fr2 : ∀ a ∈ cs'.flatten, B' a = none ∧ hideH H cs.flatten a = none := fun a ha => by
            have z := fr a (by rw [List.flatten_cons]; exact List.mem_append_right _ ha)
            exact ⟨z.1, none0 a z.2⟩
          obtain ⟨fps', r, mem⟩ := q4 B' H' ds' cs' ss' (stp st) af n4 fr2 e
          refine ⟨?_, k B' H' fps' c r ⟨ow', n3, fun a ha => ?_⟩⟩
          · have z := rw'.ow.2
            rw [Rep] at z
            exact z
          · have z := fr a (by rw [List.flatten_cons]; exact List.mem_append_left _ ha)
            refine ⟨fun y => ?_, z.1, none1 a (none0 a z.2)⟩
            rcases mem a y with u | u
            · have h0 := none0 a z.2
              rw [hide_out u.2] at h0
              obtain ⟨x, hx⟩ := (si.pi.here a u.1).some
              rw [hx] at h0; cases h0
            · exact n5 a ha a u rfl
  | exc e ds' =>
    simp only [hm] at k
    intro B' cls dd H' cs' st af n2 fr ex
    cases ds' with
    | nil => cases cs' <;> exact af.elim
    | cons d' ds' =>
      cases cs' with
      | nil => exact af.elim
      | cons c cs' =>
        obtain ⟨ss', e2, k⟩ := k
        obtain ⟨ow', af⟩ := af
        rw [List.flatten_cons] at n2
        obtain ⟨n3, n4, n5⟩ := List.nodup_append.mp n2
        have fr2 : ∀ a ∈ cs'.flatten, B' a = none ∧ hideH H cs.flatten a = none := fun a ha => by
          have z := fr a (by rw [List.flatten_cons]; exact List.mem_append_right _ ha)
          exact ⟨z.1, none0 a z.2⟩
        obtain ⟨fps', r, _⟩ := q4 B' H' ds' cs' ss' (stp st) af n4 fr2 e2
        exact k B' cls dd H' fps' r ex
  | no => simp only [hm] at k
theorem lend_x {E : XK} {Q : VK} (si : SI K B0 H0 B σ H ss fps) {as : List AG} {ms : Md} {vs : List V} {ds : List D} {m : FV} (ag : AgOk K B H σ as vs) (nd : (idxs as).Nodup) (hd : dsA ss ms as = some ds)
    (k : match finA ss as (m ds) with
      | .ok n d ss' => ∀ B' v H' fps' fp, SI K B0 H0 B' σ H' ss' fps' → Rw K H0 B' H' n d v fp fps' → Q v H'
      | .exc e ss' => ∀ B' cls dd H' fps', SI K B0 H0 B' σ H' ss' fps' → ExR K B' H' e cls dd → E cls dd H'
      | .no => False) : spV K ms m vs H Q E := by
  refine lend_sp si ag nd hd ?_
  cases hm : m ds with
  | ok n d ds' =>
    rw [hm] at k
    unfold finA at k
    cases hp : putA ss as ds' ss with
    | none => simp only [hp] at k
    | some ss' => simp only [hp] at k; exact ⟨ss', hp, k⟩
  | exc e ds' =>
    rw [hm] at k
    unfold finA at k
    cases hp : putA ss as ds' ss with
    | none => simp only [hp] at k
    | some ss' => simp only [hp] at k; exact ⟨ss', hp, k⟩
  | no => rw [hm] at k; exact k
theorem make_x {E : XK} {Q : VK} (si : SI K B0 H0 B σ H ss fps) {as : List AG} {ms : Md} {vs : List V} {ds : List D} {m : FV} {C a0 dx : Addr} {m0 : Nat} (ag : AgOk K B H σ as vs) (nd : (idxs as).Nodup) (hd : dsA ss ms as = some ds)
    (h1 : H a0 = none) (h2 : H dx = none) (hne : dx ≠ a0)
    (k : match finMk ss as m0 (m (.ob C [] :: ds)) with
      | .ok n d ss' => ∀ B' v H' fps' fp, SI K B0 H0 B' σ H' ss' fps' → Rw K H0 B' H' n d v fp fps' → Q v H'
      | .exc e ss' => ∀ B' cls dd H' fps', SI K B0 H0 B' σ H' ss' fps' → ExR K B' H' e cls dd → E cls dd H'
      | .no => False) : spV K (some m0 :: ms) m (.ref a0 :: vs) (upd (upd H dx (.own a0)) a0 (.ins C dx [])) (fun v H2 => v = .non ∧ Q (.ref a0) H2) E := by
  refine lend_mk (m0 := m0) si ag nd hd h1 h2 hne ?_
  cases hm : m (.ob C [] :: ds) with
  | ok n d ds' =>
    rw [hm] at k
    cases n with
    | succ n => exact k.elim
    | zero =>
      cases d <;> first | exact k.elim | skip
      cases ds' with
      | nil => exact k.elim
      | cons d' ds' =>
        unfold finMk at k
        cases hp : putA ss as ds' ss with
        | none => simp only [hp] at k
        | some ss' => simp only [hp] at k; exact ⟨ss', hp, fun B' H' fps' fp => k B' _ H' fps' fp⟩
  | exc e ds' =>
    rw [hm] at k
    cases ds' with
    | nil => exact k.elim
    | cons d' ds' =>
      unfold finMk at k
      cases hp : putA ss as ds' ss with
      | none => simp only [hp] at k
      | some ss' => simp only [hp] at k; exact ⟨ss', hp, k⟩
  | no => rw [hm] at k; exact k
theorem AgOk.app : ∀ {as bs : List AG} {vs ws : List V}, AgOk K B H σ as vs → AgOk K B H σ bs ws → AgOk K B H σ (as ++ bs) (vs ++ ws)
  | [], bs, [], ws, _, h => h
  | .fz d :: as, bs, v :: vs, ws, h, k => ⟨h.1, h.2.app k⟩
  | .ln i π :: as, bs, v :: vs, ws, h, k => ⟨h.1, h.2.app k⟩
  | [], _, _ :: _, _, h, _ => h.elim
  | .fz _ :: _, _, [], _, h, _ => h.elim
  | .ln _ _ :: _, _, [], _, h, _ => h.elim
theorem AgOk.fz : ∀ {ds : List D} {vs : List V}, Reps K B ds vs → AgOk K B H σ (ds.map .fz) vs
  | [], vs, h => by
    rw [Reps] at h
    subst h
    exact True.intro
  | d :: ds, vs, h => by
    rw [Reps] at h
    obtain ⟨v, ws, rfl, h2, h3⟩ := h
    exact ⟨h2, AgOk.fz h3⟩
theorem AgOk.le (eB : Le B B') (eH : Le H H') : ∀ {as : List AG} {vs : List V}, AgOk K B H σ as vs → AgOk K B' H' σ as vs
  | [], [], _ => True.intro
  | .fz d :: as, v :: vs, h => ⟨Rep.mono eB _ _ h.1, h.2.le eB eH⟩
  | .ln i π :: as, v :: vs, ⟨⟨w, h1, h2⟩, h3⟩ => ⟨⟨w, h1, h2.le eH⟩, h3.le eB eH⟩
  | [], _ :: _, h => h.elim
  | .fz _ :: _, [], h => h.elim
  | .ln _ _ :: _, [], h => h.elim
theorem AgOk.length : ∀ {as : List AG} {vs : List V}, AgOk K B H σ as vs → as.length = vs.length
  | [], [], _ => rfl
  | .fz d :: as, v :: vs, h => by rw [List.length_cons, List.length_cons, h.2.length]
  | .ln i π :: as, v :: vs, h => by rw [List.length_cons, List.length_cons, h.2.length]
  | [], _ :: _, h => h.elim
  | .fz _ :: _, [], h => h.elim
  | .ln _ _ :: _, [], h => h.elim
end
end Mv
/-! Calls that lend: the rules. -/
namespace Mv
open PySem L2
def tX (K : PySem.W.Frag) (W : WX) (g : EX) : TE := fun σ H Q => ∃ B0 H0 B ss fps, SI K B0 H0 B σ H ss fps ∧ match g ss with
  | .ok n d ss' => ∀ B' v H' fps' fp, SI K B0 H0 B' σ H' ss' fps' → Rw K H0 B' H' n d v fp fps' → Q v H'
  | .exc e ss' => ∀ B' cls dd H' fps', SI K B0 H0 B' σ H' ss' fps' → ExR K B' H' e cls dd → W cls dd σ H'
  | .no => False
/-- defaults behind the arguments -/
def gDef (dd : List D) (g : GA) : GA := fun ss => match g ss with
  | .ok as => .ok (as ++ dd.map .fz)
  | .exc e => .exc e
  | .no => .no
/-- n arguments, then j keywords -/
def gApp (n j : Nat) (g1 g2 : GA) : GA := fun ss => match g1 ss with
  | .ok as => (match g2 ss with
    | .ok bs => if as.length = n ∧ bs.length = j then .ok (as ++ bs) else .no
    | .exc e => .exc e
    | .no => .no)
  | .exc e => .exc e
  | .no => .no
/-- the object of a method -/
def okM (C : Addr) (mn : Str) (i : Nat) (p : GP) (ss : En) : Bool := match p ss with
  | .ok π => (match atP i ss π with
    | some (_ + 1, .ob C' fs) => decide (C' = C) && (fs.lookup mn).isNone
    | _ => false)
  | _ => false
def eMeth (C : Addr) (mn : Str) (i : Nat) (p : GP) (ms : Md) (m : FV) (g : GA) : EX := fun ss => if okM C mn i p ss = true then eLend ms m (gLn i p g) ss else .no
section
variable {X : Cx} {CX : CXT} {k n : Nat} {f C : Addr} {fd : FuncData} {ps ks : List Str} {sp : Sp} {m mn x : Str} {p pos apos : Pos} {e o : Expr} {es : List Expr} {kws : List Keyword} {dvs : List V} {ds : List Value} {E : L2.St → XK} {ta : TE} {t tk : TA}
def tMethS (C : Addr) (mn : Str) (sp : Sp) (dvs : List V) (E : L2.St → XK) (ta : TE) (t : TA) : TE := fun σ H Q => ta σ H fun x H1 => ∃ a dx fs, x = .ref a ∧ H1 a = some (.ins C dx fs) ∧ fs.lookup mn = none ∧ t σ H1 fun vs H2 => sp ((.ref a :: vs) ++ dvs) H2 Q (E σ)
theorem pe_methSD {pl : Sem Bool} (he : PE X o ta) (c : Cls X.K C) (hm : Meth X.K C mn f) (F : FnOk X.prog X.w X.K X.mg X.base CX k f fd ps sp) (hr : Room k X.A) (hb : Binds X.K fd ps ds) (hd : Vals dvs ds) (hx : ∀ σ, PassesAt CX X σ (E σ)) (ha : PA X (e :: es) t) (hst : starEach (e :: es) X.env = (false, eval e X.env) :: starEach es X.env := by rfl) (hpl : (backTo pos (starEach es X.env)).any (·.1) = false := by rfl)
    (ht : eval (.Call (.Attribute o mn apos) (e :: es) [] pos) X.env = (do
      let ov ← eval o X.env
      standAt apos.atName
      let (f, first) ← holding [ov] (getMethod ov mn pl)
      callWith pos f first (backTo pos (starEach (e :: es) X.env)) (backToKw pos (keywordEach [] X.env))) := by rfl) : PE X (.Call (.Attribute o mn apos) (e :: es) [] pos) (tMethS C mn sp dvs E ta t) := by
  constructor
  intro pins s σ H Q it want
  refine PySem.W.methodCall_KW (pl := pl) (thn (he.run pins s σ H _ it want) ?_) ht
  rintro u s1 ⟨x, H1, I1, rx, a, dx, fs, rfl, ea, l, q⟩
  rcases rx with rfl : u = Value.ref a
  refine (getmeth_ok I1 ea c hm l ?_)
  refine PySem.W.callWith_K (first := [.ref a]) (h₀ := X.base) it.ok.mod.kin hm.kp (thn (ha.run pos pins s1 σ H1 _ I1 q) ?_) hst hpl
  rintro us s2 ⟨vs, H2, it2, same, q2⟩
  exact ⟨it2.kIn, run_fnSD (us := .ref a :: us) (vs := .ref a :: vs) F hr hb hd (hx σ) it2 (.cons rfl same) q2⟩
def tMethKS (C : Addr) (mn : Str) (n j : Nat) (sp : Sp) (E : L2.St → XK) (ta : TE) (t tk : TA) : TE := fun σ H Q => ta σ H fun x H1 => ∃ a dx fs, x = .ref a ∧ H1 a = some (.ins C dx fs) ∧ fs.lookup mn = none ∧
  t σ H1 fun vs H2 => tk σ H2 fun zs H3 => vs.length = n ∧ zs.length = j ∧ sp (.ref a :: (vs ++ zs)) H3 Q (E σ)
theorem run_kwS {E : XK} {pins : List (Addr × Obj)} {σ : L2.St} {H : Hp} {s : Shared} {Q : VK} {us ws : List Value} {vs zs : List V} (F : FnOk X.prog X.w X.K X.mg X.base CX k f fd ps sp) (room : Room k X.A) (bound : KB X.K fd ps (n + 1) ks) (out : PassesAt CX X σ E)
    (it : Inv X pins σ H s) {x : V} {u : Value} (rx : RelV x u) (r1 : Vals vs us) (r2 : Vals zs ws) (n1 : vs.length = n) (n2 : zs.length = ks.length) (q : sp (x :: (vs ++ zs)) H Q E) : wpAny (model X.prog X.w) X.A (call (.ref f) (u :: us) (ks.zip ws)) (L2.EP X pins σ Q) X.xe s := by
  apply wpAny_call
  have there := bound.to s (u :: us) ws it.kIn (by rw [List.length_cons, ← r1.length, n1]) (by rw [← r2.length, n2])
  refine codeAny_mono (F.run X.A X.stack s H _ _ _ Q E room it.env0 there (bound.rel (.cons rx r1) r2) q) ?_
  rintro (er | fl) s3 end_
  · exact out pins H s er s3 it end_
  · cases fl with
    | ret u => exact it.after end_
    | _ => exact False.elim end_
theorem pe_methKS {pl : Sem Bool} (he : PE X o ta) (c : Cls X.K C) (hm : Meth X.K C mn f) (F : FnOk X.prog X.w X.K X.mg X.base CX k f fd ps sp) (room : Room k X.A) (bound : KB X.K fd ps (n + 1) ks) (out : ∀ σ, PassesAt CX X σ (E σ)) (ha : PA X (e :: es) t) (hkw : PK X kws tk)
    (hall : (backToKw pos (keywordEach kws X.env)).all (·.1.isSome) = true := by rfl) (hks : (backToKw pos (keywordEach kws X.env)).filterMap (·.1) = ks := by rfl) (hst : starEach (e :: es) X.env = (false, eval e X.env) :: starEach es X.env := by rfl) (hpl : ((backTo pos (starEach (e :: es) X.env)).any (·.1) || (backToKw pos (keywordEach kws X.env)).any (·.1.isNone)) = false := by rfl)
    (ht : eval (.Call (.Attribute o mn apos) (e :: es) kws pos) X.env = (do
      let ov ← eval o X.env
      standAt apos.atName
      let (f, first) ← holding [ov] (getMethod ov mn pl)
      callWith pos f first (backTo pos (starEach (e :: es) X.env)) (backToKw pos (keywordEach kws X.env))) := by rfl) : PE X (.Call (.Attribute o mn apos) (e :: es) kws pos) (tMethKS C mn n ks.length sp E ta t tk) := by
  constructor
  intro pins s σ H Q it want
  refine PySem.W.methodCall_KW (pl := pl) (thn (he.run pins s σ H _ it want) ?_) ht
  rintro u s1 ⟨x, H1, I1, rx, a, dx, fs, rfl, ea, l, q⟩
  rcases rx with rfl : u = Value.ref a
  refine (getmeth_ok I1 ea c hm l ?_)
  refine PySem.W.callWith_KW (first := [.ref a]) (h₀ := X.base) it.ok.mod.kin hm.kp hall (thn (ha.run pos pins s1 σ H1 _ I1 q) ?_) hpl hst
  rintro us s2 ⟨vs, H2, it2, same, q2⟩
  refine thn (hkw.run pos pins s2 σ H2 _ it2 q2) ?_
  rintro ws s3 ⟨zs, H3, it3, sameK, n1, n2, q3⟩
  refine ⟨it3.kIn, ?_⟩
  rw [hks]
  exact run_kwS F room bound (out σ) it3 (show RelV (.ref a) (.ref a) from rfl) same sameK n1 n2 q3
end
section
variable {X : Cx} {W : WX} {k n j : Nat} {f C : Addr} {fd : FuncData} {ps ks : List Str} {m : FV} {ms : Md} {mn x : Str} {p pos apos kpos : Pos} {nm : Option Str} {e o : Expr} {es : List Expr} {kws : List Keyword} {dvs : List V} {dd : List D} {g g2 : GA} {q : GP} {fe : EB}
/-- f(..) -/
theorem x_call (F : FnOk X.prog X.w X.K X.mg X.base (L2N.CX X.prog X.w) k f fd ps (spV X.K ms m)) (tk : L2N.Takes X W) (hr : Room k X.A) (hg : Gl X x) (hm : X.mg x = some (.ref f)) (hk : PySem.W.keepIn X.K (.ref f) = true) (hb : Binds X.K fd ps [])
    (ha : PA X (e :: es) (tGA X.K W g)) (hdb : (x == ("__debug__" : Str)) = false := by decide) (he : starEach (e :: es) X.env = (false, eval e X.env) :: starEach es X.env := by rfl) (hpl : (backTo pos (starEach es X.env)).any (·.1) = false := by rfl) :
    PE X (.Call (.Name x p) (e :: es) [] pos) (tX X.K W (eLend ms m g)) := by
  refine pe_w (pe_callS F hr hg hm hk hb (fun σ => L2N.passAt tk σ) ha hdb he hpl) fun σ H Q hq => ?_
  obtain ⟨B0, H0, B, ss, fps, si, k⟩ := hq
  refine ⟨B, ss, fps, si.pi, ?_⟩
  unfold eLend at k
  cases hg : g ss with
  | exc e => simp only [hg] at k; exact fun B' cls dd H' st ex => k B' cls dd H' fps (si.step st) ex
  | no => simp only [hg] at k
  | ok as =>
    simp only [hg] at k
    intro B1 vs H1 st ag
    by_cases nd : (idxs as).Nodup
    · rw [if_pos nd] at k
      cases hd : dsA ss ms as with
      | none => simp only [hd] at k
      | some ds => simp only [hd] at k; exact lend_x (si.step st) ag nd hd k
    · rw [if_neg nd] at k; exact k.elim
theorem ga_kn : PK X [] (tGA X.K W gNil) := by
  refine pk_w pk_nil fun σ H Q hq => ?_
  obtain ⟨B, ss, fps, pi, k⟩ := hq
  exact k B [] H (.refl pi.bh) True.intro
theorem ga_kf (ha : PE X e (tB X.K W fe)) (hr : PK X kws (tGA X.K W g)) : PK X (⟨nm, e, kpos⟩ :: kws) (tGA X.K W (gFz fe g)) := by
  refine pk_w (pk_cons ha hr) fun σ H Q hq => ?_
  obtain ⟨B, ss, fps, pi, k⟩ := hq
  refine ⟨B, ss, fps, pi, ?_⟩
  unfold gFz at k
  cases h : fe ss with
  | exc e => simp only [h] at k; exact k
  | no => simp only [h] at k
  | ok r =>
    obtain ⟨n, d⟩ := r
    simp only [h] at k
    by_cases hn : n = 0 ∨ isA d = true
    · rw [if_pos hn] at k
      intro B1 v H1 s1 bw
      have rv : Rep X.K B1 d v := by
        rcases hn with rfl | hn
        · exact bw.rep
        · exact bw.repA hn
      refine ⟨B1, ss, fps, pi.step s1, ?_⟩
      cases hg : g ss with
      | exc e => simp only [hg] at k; exact fun B' cls dd H' st ex => k B' cls dd H' (s1.trans st) ex
      | no => simp only [hg] at k
      | ok as =>
        simp only [hg] at k
        exact fun B' vs H' st r => k B' (v :: vs) H' (s1.trans st) ⟨Rep.mono st.bb _ _ rv, r⟩
    · rw [if_neg hn] at k; exact k.elim
theorem okM_get {i : Nat} {ss : En} (h : okM C mn i q ss = true) : ∃ π m fs, q ss = .ok π ∧ atP i ss π = some (m + 1, .ob C fs) ∧ fs.lookup mn = none := by
  unfold okM at h
  split at h
  · rename_i π hp
    split at h
    · rename_i m C' fs ha
      obtain ⟨hC, hl⟩ := (Bool.and_eq_true _ _).mp h
      have hC := of_decide_eq_true hC
      subst hC
      refine ⟨π, m, fs, hp, ha, ?_⟩
      cases hh : fs.lookup mn with
      | none => rfl
      | some d => rw [hh] at hl; cases hl
    · cases h
  · cases h
theorem ob_none {K : PySem.W.Frag} {B H : Hp} {m : Nat} {C : Addr} {fs : List (Str × D)} {v : V} {fp : List Addr} (h : Ow K B H (m + 1) (.ob C fs) v fp) {x : Str} (hl : fs.lookup x = none) :
    ∃ p dx gs, v = .ref p ∧ H p = some (.ins C dx gs) ∧ gs.lookup x = none := by
  obtain ⟨p, dx, gs, fps, rfl, h1, e4, al⟩ := obO h
  refine ⟨p, dx, gs, rfl, h1, ?_⟩
  clear e4 h1 h
  induction al with
  | nil => rfl
  | cons r t ih =>
    rename_i a b c as bs cs
    obtain ⟨n1, d1⟩ := a
    obtain ⟨n2, v2⟩ := b
    have e := r.1
    simp only at e
    subst e
    rw [List.lookup_cons] at hl ⊢
    split at hl
    · cases hl
    · exact ih hl
/-- what follows when the object of a method is read -/
theorem x_self {B0 H0 B H : Hp} {ss : En} {fps : List (List Addr)} {σ : L2.St} {Q : VK} {i : Nat} {T : V → Hp → Prop} (si : SI X.K B0 H0 B σ H ss fps)
    (z : match eMeth C mn i q ms m g ss with
      | .ok n d ss' => ∀ B' v H' fps' fp, SI X.K B0 H0 B' σ H' ss' fps' → Rw X.K H0 B' H' n d v fp fps' → Q v H'
      | .exc e ss' => ∀ B' cls dd H' fps', SI X.K B0 H0 B' σ H' ss' fps' → ExR X.K B' H' e cls dd → W cls dd σ H'
      | .no => False)
    (K1 : ∀ (π : List PS1) (B1 H1 : Hp) (a dx : Addr) (gs : List (Str × V)), q ss = .ok π → SI X.K B0 H0 B1 σ H1 ss fps → H1 a = some (.ins C dx gs) → gs.lookup mn = none → (∃ w, σ[i]? = some (some w) ∧ PVs H1 w π (.ref a)) →
      (match eLend ms m (gLn i q g) ss with
      | .ok n d ss' => ∀ B' v H' fps' fp, SI X.K B0 H0 B' σ H' ss' fps' → Rw X.K H0 B' H' n d v fp fps' → Q v H'
      | .exc e ss' => ∀ B' cls dd H' fps', SI X.K B0 H0 B' σ H' ss' fps' → ExR X.K B' H' e cls dd → W cls dd σ H'
      | .no => False) → T (.ref a) H1) :
    match q ss with
    | .ok π => ∀ B' v H', Stp B H B' H' → (∃ w, σ[i]? = some (some w) ∧ PVs H' w π v) → T v H'
    | .exc e => ∀ B' cls dd H', Stp B H B' H' → ExR X.K B' H' e cls dd → W cls dd σ H'
    | .no => False := by
  unfold eMeth at z
  by_cases hok : okM C mn i q ss = true
  · rw [if_pos hok] at z
    obtain ⟨π, m1, fs, hp, hat, hl⟩ := okM_get hok
    rw [hp]
    intro B1 v H1 s1 ⟨w, hw, pv⟩
    have si1 := si.step s1
    obtain ⟨s, n0, d, w', fp, v', fp', A⟩ := si1.pi.atP hat
    have ew := A.hσ
    rw [hw] at ew
    cases ew
    have ev : v = v' := pv.fun A.pv
    subst ev
    obtain ⟨a, dx, gs, rfl, h1, h2⟩ := ob_none A.foc.ow hl
    exact K1 π B1 H1 a dx gs hp si1 h1 h2 ⟨w, hw, pv⟩ z
  · rw [if_neg hok] at z; exact z.elim
/-- o.m(..), the object lent -/
theorem x_meth (i : Nat) {pl : Sem Bool} (c : Cls X.K C) (hm : Meth X.K C mn f) (F : FnOk X.prog X.w X.K X.mg X.base (L2N.CX X.prog X.w) k f fd ps (spV X.K ms m)) (tk : L2N.Takes X W) (hr : Room k X.A) (bound : ∃ ds, Vals dvs ds ∧ Binds X.K fd ps ds) (hd : ∀ B : Hp, Reps X.K B dd dvs)
    (ho : PE X o (tPth X.K W i q)) (ha : PA X (e :: es) (tGA X.K W g)) (hst : starEach (e :: es) X.env = (false, eval e X.env) :: starEach es X.env := by rfl) (hpl : (backTo pos (starEach es X.env)).any (·.1) = false := by rfl)
    (ht : eval (.Call (.Attribute o mn apos) (e :: es) [] pos) X.env = (do
      let ov ← eval o X.env
      standAt apos.atName
      let (f, first) ← holding [ov] (getMethod ov mn pl)
      callWith pos f first (backTo pos (starEach (e :: es) X.env)) (backToKw pos (keywordEach [] X.env))) := by rfl) : PE X (.Call (.Attribute o mn apos) (e :: es) [] pos) (tX X.K W (eMeth C mn i q ms m (gDef dd g))) := by
  obtain ⟨us, hu, hb⟩ := bound
  refine pe_w (pe_methSD (dvs := dvs) ho c hm F hr hb hu (fun σ => L2N.passAt tk σ) ha hst hpl ht) fun σ H Q hq => ?_
  obtain ⟨B0, H0, B, ss, fps, si, k⟩ := hq
  refine ⟨B, ss, fps, si.pi, ?_⟩
  refine x_self (T := fun x H1 => ∃ a dx fs, x = .ref a ∧ H1 a = some (.ins C dx fs) ∧ fs.lookup mn = none ∧ tGA X.K W g σ H1 fun vs H2 => spV X.K ms m ((.ref a :: vs) ++ dvs) H2 Q (WE W σ)) si k fun π B1 H1 a dx gs hp si1 h1 h2 hw z => ?_
  refine ⟨a, dx, gs, rfl, h1, h2, B1, ss, fps, si1.pi, ?_⟩
  unfold eLend gLn gDef at z
  simp only [hp] at z
  cases hg : g ss with
  | exc e => simp only [hg] at z; exact fun B' cls dd H' st ex => z B' cls dd H' fps (si1.step st) ex
  | no => simp only [hg] at z
  | ok as =>
    simp only [hg] at z
    intro B2 vs H2 s2 ag
    obtain ⟨w, hw1, hw2⟩ := hw
    have ag2 : AgOk X.K B2 H2 σ ((.ln i π :: as) ++ dd.map .fz) ((.ref a :: vs) ++ dvs) := AgOk.app (as := .ln i π :: as) (vs := .ref a :: vs) ⟨⟨w, hw1, hw2.le s2.hh⟩, ag⟩ (AgOk.fz (hd B2))
    by_cases nd : (idxs (.ln i π :: (as ++ dd.map .fz))).Nodup
    · rw [if_pos nd] at z
      cases hd : dsA ss ms (.ln i π :: (as ++ dd.map .fz)) with
      | none => simp only [hd] at z
      | some ds => simp only [hd] at z; exact lend_x (si1.step s2) ag2 nd hd z
    · rw [if_neg nd] at z; exact z.elim
/-- o.m(.., k = ..), the object lent -/
theorem x_methK (i : Nat) {pl : Sem Bool} (c : Cls X.K C) (hm : Meth X.K C mn f) (F : FnOk X.prog X.w X.K X.mg X.base (L2N.CX X.prog X.w) k f fd ps (spV X.K ms m)) (tk : L2N.Takes X W) (hr : Room k X.A) (hb : KB X.K fd ps (n + 1) ks)
    (ho : PE X o (tPth X.K W i q)) (ha : PA X (e :: es) (tGA X.K W g)) (hkw : PK X kws (tGA X.K W g2)) (hj : ks.length = j := by rfl)
    (hall : (backToKw pos (keywordEach kws X.env)).all (·.1.isSome) = true := by rfl) (hks : (backToKw pos (keywordEach kws X.env)).filterMap (·.1) = ks := by rfl) (hst : starEach (e :: es) X.env = (false, eval e X.env) :: starEach es X.env := by rfl) (hpl : ((backTo pos (starEach (e :: es) X.env)).any (·.1) || (backToKw pos (keywordEach kws X.env)).any (·.1.isNone)) = false := by rfl)
    (ht : eval (.Call (.Attribute o mn apos) (e :: es) kws pos) X.env = (do
      let ov ← eval o X.env
      standAt apos.atName
      let (f, first) ← holding [ov] (getMethod ov mn pl)
      callWith pos f first (backTo pos (starEach (e :: es) X.env)) (backToKw pos (keywordEach kws X.env))) := by rfl) : PE X (.Call (.Attribute o mn apos) (e :: es) kws pos) (tX X.K W (eMeth C mn i q ms m (gApp n j g g2))) := by
  subst hj
  refine pe_w (pe_methKS ho c hm F hr hb (fun σ => L2N.passAt tk σ) ha hkw hall hks hst hpl ht) fun σ H Q hq => ?_
  obtain ⟨B0, H0, B, ss, fps, si, k⟩ := hq
  refine ⟨B, ss, fps, si.pi, ?_⟩
  refine x_self (T := fun x H1 => ∃ a dx fs, x = .ref a ∧ H1 a = some (.ins C dx fs) ∧ fs.lookup mn = none ∧ tGA X.K W g σ H1 fun vs H2 => tGA X.K W g2 σ H2 fun zs H3 => vs.length = n ∧ zs.length = ks.length ∧ spV X.K ms m (.ref a :: (vs ++ zs)) H3 Q (WE W σ)) si k fun π B1 H1 a dx gs hp si1 h1 h2 hw z => ?_
  refine ⟨a, dx, gs, rfl, h1, h2, B1, ss, fps, si1.pi, ?_⟩
  unfold eLend gLn gApp at z
  simp only [hp] at z
  cases hg : g ss with
  | exc e => simp only [hg] at z; exact fun B' cls dd H' st ex => z B' cls dd H' fps (si1.step st) ex
  | no => simp only [hg] at z
  | ok as =>
    simp only [hg] at z
    intro B2 vs H2 s2 ag
    refine ⟨B2, ss, fps, (si1.step s2).pi, ?_⟩
    cases hg2 : g2 ss with
    | exc e => simp only [hg2] at z; exact fun B' cls dd H' st ex => z B' cls dd H' fps ((si1.step s2).step st) ex
    | no => simp only [hg2] at z
    | ok bs =>
      simp only [hg2] at z
      intro B3 zs H3 s3 ag3
      by_cases hc : as.length = n ∧ bs.length = ks.length
      · rw [if_pos hc] at z
        simp only at z
        refine ⟨by rw [← ag.length]; exact hc.1, by rw [← ag3.length]; exact hc.2, ?_⟩
        obtain ⟨w, hw1, hw2⟩ := hw
        have ag4 : AgOk X.K B3 H3 σ (.ln i π :: (as ++ bs)) (.ref a :: (vs ++ zs)) := ⟨⟨w, hw1, hw2.le (s2.trans s3).hh⟩, (ag.le s3.bb s3.hh).app ag3⟩
        by_cases nd : (idxs (.ln i π :: (as ++ bs))).Nodup
        · rw [if_pos nd] at z
          cases hd : dsA ss ms (.ln i π :: (as ++ bs)) with
          | none => simp only [hd] at z
          | some ds => simp only [hd] at z; exact lend_x ((si1.step s2).step s3) ag4 nd hd z
        · rw [if_neg nd] at z; exact z.elim
      · rw [if_neg hc] at z; exact z.elim
/-- C(..) -/
theorem x_make {m0 : Nat} (M : Mk X.K C f) (F : FnOk X.prog X.w X.K X.mg X.base (L2N.CX X.prog X.w) k f fd ps (spV X.K (some m0 :: ms) m)) (tk : L2N.Takes X W) (hr : Room (k + 1) X.A) (hg : Gl X x) (hm : X.mg x = some (.ref C)) (bound : ∃ ds, Vals dvs ds ∧ Binds X.K fd ps ds) (hd : ∀ B : Hp, Reps X.K B dd dvs)
    (ha : PA X (e :: es) (tGA X.K W g)) (hdb : (x == ("__debug__" : Str)) = false := by decide) (he : starEach (e :: es) X.env = (false, eval e X.env) :: starEach es X.env := by rfl) (hpl : (backTo pos (starEach es X.env)).any (·.1) = false := by rfl) :
    PE X (.Call (.Name x p) (e :: es) [] pos) (tX X.K W (eMake C m0 ms m (gDef dd g))) := by
  obtain ⟨us, hu, hb⟩ := bound
  refine pe_w (pe_makeSD M F hr hg hm hb hu (fun σ => L2N.passAt tk σ) ha hdb he hpl) fun σ H Q hq => ?_
  obtain ⟨B0, H0, B, ss, fps, si, z⟩ := hq
  refine ⟨B, ss, fps, si.pi, ?_⟩
  unfold eMake gDef at z
  cases hg : g ss with
  | exc e => simp only [hg] at z; exact fun B' cls dd H' st ex => z B' cls dd H' fps (si.step st) ex
  | no => simp only [hg] at z
  | ok as =>
    simp only [hg] at z
    intro B2 vs H2 s2 ag a dx hx hdx hne
    have ag2 : AgOk X.K B2 H2 σ (as ++ dd.map .fz) (vs ++ dvs) := ag.app (AgOk.fz (hd B2))
    by_cases nd : (idxs (as ++ dd.map .fz)).Nodup
    · rw [if_pos nd] at z
      cases hd : dsA ss ms (as ++ dd.map .fz) with
      | none => simp only [hd] at z
      | some ds => simp only [hd] at z; exact make_x (si.step s2) ag2 nd hd hx hdx hne z
    · rw [if_neg nd] at z; exact z.elim
end
end Mv
/-! Statements with expressions that change the slots. -/
namespace Mv
open PySem L2
/-- an expression that changes nothing -/
def eM (f : EB) : EX := fun ss => match f ss with
  | .ok (n, d) => .ok n d ss
  | .exc e => .exc e ss
  | .no => .no
def sSetX (k : Nat) (g : EX) : SM := fun ss => match g ss with
  | .ok n d ss' => .nx (ss'.set k (.v n d))
  | .exc e ss' => .exc e ss'
  | .no => .no
def sRetX (g : EX) : SM := fun ss => match g ss with
  | .ok n d ss' => .rn n d ss'
  | .exc e ss' => .exc e ss'
  | .no => .no
def sIfX (g : EX) (F G : SM) : SM := fun ss => match g ss with
  | .ok 0 (.bl true) ss' => F ss'
  | .ok 0 (.bl false) ss' => G ss'
  | .exc e ss' => .exc e ss'
  | _ => .no
/-- return x: what slot i owns leaves it -/
def sRetNV (i : Nat) : SM := fun ss => match ss[i]? with
  | some (.v n d) => .rn n d (ss.set i .un)
  | _ => .no
section
variable {K : PySem.W.Frag} {B0 H0 B B' H H' : Hp} {σ : L2.St} {ss : En} {fps : List (List Addr)}
theorem SI.storeR (h : SI K B0 H0 B σ H ss fps) {n : Nat} {d : D} {v : V} {fp : List Addr} (r : Rw K H0 B H n d v fp fps) (i : Nat) : SI K B0 H0 B (σ.set i (some v)) H (ss.set i (.v n d)) (fps.set i fp) := by
  refine ⟨⟨h.pi.bh, h.pi.al.set (a := Sl.v n d) (b := some v) ⟨v, rfl, r.ow⟩ i, nodup_set h.pi.nd r.nd i (fun _ _ => True.intro) fun a ha c hc hac => absurd (mem_fl hc hac) (r.fr a ha).1, fun a ha => ?_⟩, h.st, fun a ha => ?_⟩
  · rcases mem_set_fl ha with z | z
    · exact h.pi.fr a z
    · exact (r.fr a z).2.1
  · rcases mem_set_fl ha with z | z
    · exact h.fr a z
    · exact (r.fr a z).2.2
theorem New.rw (h : SI K B0 H0 B σ H ss fps) (st : Stp B H B' H') {n : Nat} {d : D} {v : V} {fp : List Addr} (nw : New K H B' H' n d v fp) : Rw K H0 B' H' n d v fp fps :=
  ⟨nw.ow, nw.nd, fun a ha => And.intro (fun z => by
    obtain ⟨u, q⟩ := (h.pi.here a z).some
    rw [(nw.fr a ha).2] at q
    cases q) ⟨(nw.fr a ha).1, h.st.hh.back (nw.fr a ha).2⟩⟩
end
section
variable {X : Cx} {W : WX} {e a b c o : Expr} {rest : List Expr} {pos : Pos} {f : EB} {g g1 g2 : EX} {p : GP} {F G : SM}
theorem x_of (he : PE X e (tM X.K W f)) : PE X e (tX X.K W (eM f)) := by
  refine pe_w he fun σ H Q hq => ?_
  obtain ⟨B0, H0, B, ss, fps, si, k⟩ := hq
  refine ⟨B, ss, fps, si.pi, ?_⟩
  unfold eM at k
  cases h : f ss with
  | exc e => simp only [h] at k; exact fun B' cls dd H' st ex => k B' cls dd H' fps (si.step st) ex
  | no => simp only [h] at k
  | ok r =>
    obtain ⟨n, d⟩ := r
    simp only [h] at k
    exact fun B' v H' fp st nw => k B' v H' fps fp (si.step st) (nw.rw si st)
/-- a test -/
def tXT (K : PySem.W.Frag) (W : WX) (g : EX) : TT := fun σ H Q => ∃ B0 H0 B ss fps, SI K B0 H0 B σ H ss fps ∧ match g ss with
  | .ok 0 (.bl b) ss' => ∀ B' H' fps', SI K B0 H0 B' σ H' ss' fps' → Q b H'
  | .exc e ss' => ∀ B' cls dd H' fps', SI K B0 H0 B' σ H' ss' fps' → ExR K B' H' e cls dd → W cls dd σ H'
  | _ => False
theorem s_ifX {xs ys : List Stmt} (hc : PT X c (tXT X.K W g)) (ha : PSs X xs (tS X.K W F)) (hb : PSs X ys (tS X.K W G)) : PS X (.If c xs ys pos) (tS X.K W (sIfX g F G)) := by
  refine ps_w (ps_if hc ha hb) fun E σ H hq => ?_
  obtain ⟨B0, H0, B, ss, fps, si, k⟩ := hq
  refine ⟨B0, H0, B, ss, fps, si, ?_⟩
  unfold sIfX at k
  cases h : g ss with
  | exc e ss' => simp only [h] at k; exact fun B' cls dd H' fps' si' ex => k B' σ H' fps' cls dd si' ex
  | no => simp only [h] at k
  | ok n d ss' =>
    simp only [h] at k
    cases n with
    | succ n => exact k.elim
    | zero =>
      cases d <;> first | exact k.elim | skip
      rename_i b
      cases b with
      | true => exact fun B' H' fps' si' => ⟨B0, H0, B', ss', fps', si', k⟩
      | false => exact fun B' H' fps' si' => ⟨B0, H0, B', ss', fps', si', k⟩
theorem s_setX {i : Nat} {x : Str} {pos' : Pos} (hN : X.N.Nodup) (hi : X.N[i]? = some x) (hx : Loc X.env.scope x) (he : PE X e (tX X.K W g)) (hs : swapsWith e (some (.Name x pos')) pos.line X.env = pure false := by rfl) (hf : X.fn x = true ∨ X.env.scope.names.lookup x = some .local := by first | exact .inl rfl | exact .inr rfl | assumption) :
    PS X (.Assign [.Name x pos'] e pos) (tS X.K W (sSetX i g)) := by
  refine ps_w (ps_set hN hi hx he hs hf) fun E σ H hq => ?_
  obtain ⟨B0, H0, B, ss, fps, si, k⟩ := hq
  refine ⟨B0, H0, B, ss, fps, si, ?_⟩
  unfold sSetX at k
  cases h : g ss with
  | exc e ss' => simp only [h] at k; exact fun B' cls dd H' fps' si' ex => k B' σ H' fps' cls dd si' ex
  | no => simp only [h] at k
  | ok n d ss' =>
    simp only [h] at k
    exact fun B' v H' fps' fp si' rw' => k B' _ H' _ (si'.storeR rw' i)
theorem s_retX (he : PE X e (tX X.K W g)) : PS X (.Return (some e) pos) (tS X.K W (sRetX g)) := by
  refine ps_w (ps_ret he) fun E σ H hq => ?_
  obtain ⟨B0, H0, B, ss, fps, si, k⟩ := hq
  refine ⟨B0, H0, B, ss, fps, si, ?_⟩
  unfold sRetX at k
  cases h : g ss with
  | exc e ss' => simp only [h] at k; exact fun B' cls dd H' fps' si' ex => k B' σ H' fps' cls dd si' ex
  | no => simp only [h] at k
  | ok n d ss' =>
    simp only [h] at k
    exact fun B' v H' fps' fp si' rw' => k B' v σ H' fps' fp si' rw'
theorem s_retNV (i : Nat) {x : Str} {p : Pos} (hN : X.N[i]? = some x := by rfl) (hv : Vis X.env.scope x := by first | exact Or.inl rfl | exact Or.inr (Or.inl rfl) | exact Or.inr (Or.inr rfl)) (hd : (x == ("__debug__" : Str)) = false := by decide)
    (hcd : (x == ("__classdict__" : Str)) = false := by decide) : PS X (.Return (some (.Name x p)) pos) (tS X.K W (sRetNV i)) := by
  refine ps_w (ps_ret (pe_var hN hv hd hcd)) fun D σ H hq => ?_
  obtain ⟨B0, H0, B, ss, fps, si, k⟩ := hq
  unfold sRetNV at k
  cases hs : ss[i]? with
  | none => rw [hs] at k; exact k.elim
  | some s =>
    rw [hs] at k
    cases s with
    | un => exact k.elim
    | o w n d => exact k.elim
    | s a C fs => exact k.elim
    | v n d =>
      obtain ⟨o, fp, h1, h2, v, h3, h4⟩ := si.pi.al.get hs
      subst h3
      have hm : fp ∈ fps := List.mem_of_getElem? h2
      have si2 := si.drop i
      refine ⟨v, h1, k B v _ H _ fp si2 ⟨h4, nd_mem si.pi.nd hm, fun a ha => ⟨fun z => ?_, si.pi.fr a (mem_fl hm ha), si.fr a (mem_fl hm ha)⟩⟩⟩
      obtain ⟨c, hc, hac⟩ := List.mem_flatten.mp z
      obtain ⟨j, hj⟩ := mem_ix hc
      by_cases hij : i = j
      · subst hij
        rw [List.getElem?_set_self (List.getElem?_eq_some_iff.mp h2).1] at hj
        cases hj
        cases hac
      · rw [List.getElem?_set_ne hij] at hj
        exact apart_of si.pi.nd h2 hj (fun z => hij z.symm) a hac ha
end
end Mv
/-! A loop over a list that a slot owns: that slot alone is out of reach meanwhile. -/
namespace Mv
open PySem L2
open Classical
end Mv
/-! Objects that change, borrowed: fields, methods that change nothing, properties. -/
namespace Mv
open PySem L2
/-- e.x -/
def eFldB (C : Addr) (x : Str) (f : EB) : EB := fun ss => match f ss with
  | .ok (n, .ob C' fs) => if C' = C then (match fs.lookup x with
    | some d => .ok (if isL d = true then n - 1 else 0, d)
    | none => .no) else .no
  | .ok (_, _) => .no
  | .exc e => .exc e
  | .no => .no
section
variable {X : Cx} {W : WX} {k : Nat} {fa C g p : Addr} {fd : FuncData} {ps : List Str} {m : FM} {mn x : Str} {pos apos : Pos} {e o : Expr} {es : List Expr} {dvs : List V} {dd : List D} {f : EB} {g1 : EA}
theorem b_fldB (c : Cls X.K C) (n : NoAttr X.K C x) (he : PE X e (tB X.K W f)) (hb : attributeBase e x X.env (eval e X.env) = eval e X.env := by rfl) : PE X (.Attribute e x pos) (tB X.K W (eFldB C x f)) := by
  refine pe_w (pe_fld he hb) fun σ H Q hq => ?_
  obtain ⟨B, ss, fps, pi, k⟩ := hq
  refine ⟨B, ss, fps, pi, ?_⟩
  unfold eFldB at k
  cases h : f ss with
  | exc e => simp only [h] at k; exact k
  | no => simp only [h] at k
  | ok r =>
    obtain ⟨l, d⟩ := r
    simp only [h] at k
    cases d <;> first | exact k.elim | skip
    rename_i C' fs
    simp only at k
    intro B1 v H1 s1 ⟨fp, ow⟩
    by_cases hC : C' = C
    · subst hC
      rw [if_pos rfl] at k
      cases hl : fs.lookup x with
      | none => simp only [hl] at k
      | some d0 =>
        simp only [hl] at k
        obtain ⟨q, dx, gs, u, rfl, h1, h2, h3⟩ := ob_look s1.bh ow hl
        exact ⟨q, C', dx, gs, u, rfl, h1, c, n, h2, k B1 u H1 s1 h3⟩
    · rw [if_neg hC] at k; exact k.elim
end
end Mv
/-! xs.count(i); PATH.insert(0, e); what is owned, taken as owned deeper. -/
namespace Mv
open PySem L2
def eCnt (f1 f2 : EB) : EB := fun ss => match f1 ss with
  | .ok (n, .lst ds) => if n ≤ 1 then (match f2 ss with
    | .ok (_, .int i) => (match intsOf ds with
      | some ns => .ok (0, .int (ns.count i : Nat))
      | none => .no)
    | .ok (_, _) => .no
    | .exc e => .exc e
    | .no => .no) else .no
  | .ok (_, _) => .no
  | .exc e => .exc e
  | .no => .no
/-- PATH.insert(0, e) -/
def sInsP (i : Nat) (g : GP) (f : EB) : SM := fun ss => match g ss with
  | .ok π => (match atP i ss π with
    | some (m + 1, .lst ds) => (match f ss with
      | .ok (l, d) => if up l m d = true ∧ ds.length < 10000000 then .nx (plA i ss π (.lst (d :: ds))) else .no
      | .exc e => .exc e ss
      | .no => .no)
    | _ => .no)
  | .exc e => .exc e ss
  | .no => .no
section
variable {K : PySem.W.Frag} {B0 H0 B H : Hp} {σ : L2.St} {ss : En} {fps : List (List Addr)}
theorem SI.insA (h : SI K B0 H0 B σ H ss fps) {i m : Nat} {π : List PS1} {ds : List D} (e : atP i ss π = some (m + 1, .lst ds)) {d : D} {v : V} {fp2 : List Addr} {Hx : Hp} (nw : New K Hx B H m d v fp2) (hx : ∀ a ∈ fps.flatten, Hx a ≠ none) (h0 : Le H0 Hx) :
    ∃ w q xs fps', σ[i]? = some (some w) ∧ PVs H w π (.ref q) ∧ H q = some (.lst xs) ∧ ds.length = xs.length ∧ SI K B0 H0 B σ (upd H q (.lst (v :: xs))) (plA i ss π (.lst (d :: ds))) fps' := by
  obtain ⟨s, n, d0, w, fp, v', fp', A⟩ := h.pi.atP e
  obtain ⟨ds', q, xs, fpc, e1, e2, e3, e4, al⟩ := A.foc.ow.lstO
  cases e1
  subst e2 e4
  obtain ⟨n1, n2⟩ := List.nodup_cons.mp A.foc.nd
  have inn : ∀ a ∈ q :: fpc.flatten, a ∈ fps.flatten := fun a ha => in_fps A.hf (A.foc.sub a ha)
  have fresh : ∀ a ∈ fp2, a ∉ fps.flatten := fun a ha z => hx a z (nw.fr a ha).2
  have keep : ∀ a, a ≠ q → upd H q (.lst (v :: xs)) a = H a := fun a ha => upd_ne ha
  obtain ⟨fps', r⟩ := h.putA (H' := upd H q (.lst (v :: xs))) (y := .lst (d :: ds)) (fp2 := q :: (fp2 :: fpc).flatten) A (fun a ha => keep a fun z => ha (by rw [z]; exact List.mem_cons_self))
    (.inl ⟨d :: ds, q, v :: xs, fp2 :: fpc, rfl, rfl, upd_same, rfl, .cons (nw.ow.mono (Le.refl B) fun x hxx => keep x fun z => fresh x hxx (inn x (by rw [z]; exact List.mem_cons_self))) (all3_ix al fun j a b c hc r => r.mono (Le.refl B) fun x hxx => keep x fun z => n1 (by rw [← z]; exact mem_fl (List.mem_of_getElem? hc) hxx))⟩) rfl
    (by
      rw [List.flatten_cons]
      refine List.nodup_cons.mpr ⟨fun z => ?_, List.nodup_append.mpr ⟨nw.nd, n2, fun a ha b hb e => ?_⟩⟩
      · rcases List.mem_append.mp z with z | z
        · exact fresh q z (inn q List.mem_cons_self)
        · exact n1 z
      · subst e
        exact fresh a ha (inn a (List.mem_cons_of_mem _ hb)))
    (fun a ha => by
      rw [List.flatten_cons] at ha
      rcases List.mem_cons.mp ha with z | z
      · exact .inl (by rw [z]; exact List.mem_cons_self)
      · rcases List.mem_append.mp z with z | z
        · exact .inr ⟨fresh a z, (nw.fr a z).1, h0.back (nw.fr a z).2⟩
        · exact .inl (List.mem_cons_of_mem _ z))
  exact ⟨w, q, xs, fps', A.hσ, A.pv, e3, al.len1, r⟩
end
section
variable {X : Cx} {W : WX} {e a b o : Expr} {pos : Pos} {f f1 f2 : EB} {g : GP}
theorem b_cnt (ho : PE X a (tB X.K W f1)) (hb : PE X b (tB X.K W f2)) {apos : Pos}
    (hbase : attributeBase a "count" X.env (eval a X.env) = eval a X.env := by rfl)
    (hfew : ((backTo pos (starEach (b :: []) X.env)).all (fun x => !x.1) && (backToKw pos (keywordEach [] X.env)).all (fun x => x.1.isSome)
      && decide ((b :: ([] : List Expr)).length + ([] : List Keyword).length + (if ([] : List Keyword).isEmpty then 0 else 1) < 30)) = true := by rfl)
    (hline : (apos.endLine == pos.line) = true := by rfl) (hs : starEach (b :: []) X.env = (false, eval b X.env) :: starEach [] X.env := by rfl) (hplain : (backTo pos (starEach [] X.env)).any (·.1) = false := by rfl) :
    PE X (.Call (.Attribute a "count" apos) [b] [] pos) (tB X.K W (eCnt f1 f2)) := by
  refine pe_w (pe_bm PySem.F.plainAttrs_list PySem.F.slot_list_count PySem.F.type_list_count mt_lcount ho (pa_cons hb pa_nil hs) hbase hfew hline hs hplain) fun σ H Q hq => ?_
  obtain ⟨B, ss, fps, pi, k⟩ := hq
  refine ⟨B, ss, fps, pi, ?_⟩
  unfold eCnt at k
  cases h1 : f1 ss with
  | exc e => simp only [h1] at k; exact k
  | no => simp only [h1] at k
  | ok r =>
    obtain ⟨n, d⟩ := r
    cases d <;> first | (simp only [h1] at k; done) | skip
    rename_i ds
    simp only [h1] at k
    by_cases hn : n ≤ 1
    · rw [if_pos hn] at k
      intro B1 v H1 s1 bw
      obtain ⟨p, xs, rfl, hp, rs⟩ := bw.items s1.bh hn
      refine ⟨.inl ⟨rfl, xs, SqL.of hp⟩, B1, ss, fps, pi.step s1, ?_⟩
      cases h2 : f2 ss with
      | exc e => simp only [h2] at k; exact fun B' cls dd H' st ex => k B' cls dd H' (s1.trans st) ex
      | no => simp only [h2] at k
      | ok r =>
        obtain ⟨m, d⟩ := r
        cases d <;> first | (simp only [h2] at k; done) | skip
        rename_i i
        simp only [h2] at k
        cases h3 : intsOf ds with
        | none => simp only [h3] at k
        | some ns =>
          simp only [h3] at k
          intro B2 w H2 s2 bw2
          have hw : w = .int i := by
            have := bw2.flat (B' := B2) rfl
            rw [Rep] at this
            exact this
          subst hw
          have e1 := intsOf_eq h3
          subst e1
          have e2 := reps_ints rs
          subst e2
          exact ⟨p, ns, i, rfl, rfl, SqL.of (s2.hh _ _ hp), k B2 _ H2 (s1.trans s2) (bw0 rep_int)⟩
    · rw [if_neg hn] at k; exact k.elim
theorem s_insP {i : Nat} {j1 : Nat} {p1 : Pos} {apos cpos : Pos} (ho : PE X o (tPth X.K W i g)) (he : PE X e (tM X.K W f))
    (hbase : attributeBase o "insert" X.env (eval o X.env) = eval o X.env := by rfl) (hfew : ((backTo cpos (starEach [.Constant (.int 0) j1 p1, e] X.env)).all (fun x => !x.1) && (backToKw cpos (keywordEach [] X.env)).all (fun x => x.1.isSome) && decide (([.Constant (.int 0) j1 p1, e] : List Expr).length + ([] : List Keyword).length + (if ([] : List Keyword).isEmpty then 0 else 1) < 30)) = true := by rfl)
    (hline : (apos.endLine == cpos.line) = true := by rfl) (hs : starEach [.Constant (.int 0) j1 p1, e] X.env = (false, eval (.Constant (.int 0) j1 p1) X.env) :: starEach [e] X.env := by rfl) (hs2 : starEach [e] X.env = (false, eval e X.env) :: starEach [] X.env := by rfl) (hplain : (backTo cpos (starEach [e] X.env)).any (·.1) = false := by rfl)
    (hsw : swapsWith (.Call (.Attribute o "insert" apos) [.Constant (.int 0) j1 p1, e] [] cpos) none pos.line X.env = pure false := by rfl) :
    PS X (.Expr (.Call (.Attribute o "insert" apos) [.Constant (.int 0) j1 p1, e] [] cpos) pos) (tS X.K W (sInsP i g f)) := by
  refine ps_w (ps_expr (pe_bm PySem.F.plainAttrs_list PySem.F.slot_list_insert PySem.F.type_list_insert mt_insert ho (pa_cons pe_int (pa_cons he pa_nil hs2) hs) hbase hfew hline hs hplain) hsw) fun E σ H hq => ?_
  obtain ⟨B0, H0, B, ss, fps, si, k⟩ := tS_get hq
  refine ⟨B, ss, fps, si.pi, ?_⟩
  unfold sInsP at k
  cases hg : g ss with
  | exc e => simp only [hg] at k; exact fun B' cls dd H' st ex => k B' σ H' fps cls dd (si.step st) ex
  | no => simp only [hg] at k; exact k.elim
  | ok π =>
    simp only [hg] at k
    intro B1 ov H1 s1 ⟨w, hw, pv⟩
    have si1 := si.step s1
    split at k
    case h_2 => exact k.elim
    rename_i m ds ha
    obtain ⟨s, n0, d1, w', fp, v', fp', A⟩ := si1.pi.atP ha
    have ew := A.hσ
    rw [hw] at ew
    cases ew
    have ev := pv.fun A.pv
    subst ev
    obtain ⟨ds', q, xs, fpc, e1, e2, e3, _, al⟩ := A.foc.ow.lstO
    cases e1
    subst e2
    refine ⟨.inl ⟨rfl, _, SqL.of e3⟩, B1, ss, fps, si1.pi, ?_⟩
    cases hf : f ss with
    | exc e => simp only [hf] at k; exact fun B' cls dd H' st ex => k B' σ H' fps cls dd (si1.step st) ex
    | no => simp only [hf] at k; exact k.elim
    | ok r =>
      obtain ⟨l, d⟩ := r
      simp only [hf] at k
      intro B2 v H2 fp2 s2 nw
      split at k
      · rename_i hc
        obtain ⟨hup, hlen⟩ := hc
        obtain ⟨w', q', xs', fps', g1, g2, g3, g4, g5⟩ := (si1.step s2).insA ha (nw.up hup) (fun a ha => by obtain ⟨ys, e⟩ := (si1.pi.here a ha).some; rw [e]; exact fun z => nomatch z) si1.st.hh
        rw [hw] at g1
        cases g1
        have ev := (pv.le s2.hh).fun g2
        cases ev
        exact ⟨q, xs', 0, v, rfl, rfl, g3, by rw [← g4]; exact size_lt hlen, by omega, by omega, k B2 σ _ fps' g5⟩
      · exact k.elim
end
end Mv
/-! for over a list while an exception is handled -/
namespace HotX
open PySem
open PySem.Spec
open PyProof.Rows
end HotX
namespace Mv
open PySem L2 NdefX
end Mv
/-! Dicts whose keys are ints or texts: {}, d[k] = e, d[k], k in d, {k: e for ..}. -/
namespace Mv
open PySem L2
def kOf : D → Option Key
  | .int i => some (.inl i)
  | .str x => some (.inr x)
  | _ => none
theorem kOf_rep {K : PySem.W.Frag} {B : Hp} {d : D} {k : Key} {v : V} (h : kOf d = some k) (r : Rep K B d v) : v = kV k := by
  cases d <;> first | (cases h; done) | skip
  · cases h; rw [Rep] at r; exact r
  · cases h; rw [Rep] at r; exact r
def dget {α : Type} : List (Key × α) → Key → Option α
  | [], _ => none
  | p :: r, k => if p.1 = k then some p.2 else dget r k
def dput {α : Type} (kvs : List (Key × α)) (k : Key) (d : α) : List (Key × α) := if (dget kvs k).isSome = true then kvs.map (fun kv => if kv.1 = k then (kv.1, d) else kv) else kvs ++ [(k, d)]
section
variable {K : PySem.W.Frag} {B B1 H H1 : Hp}
theorem RepK.get : ∀ {kvs : List (Key × D)} {xs : List (Key × V)} (k : Key), RepK K B kvs xs → match dget kvs k with
    | some d => ∃ v, valV xs k = some v ∧ Rep K B d v
    | none => valV xs k = none
  | [], xs, k, h => by rw [RepK] at h; subst h; rfl
  | (n, d) :: r, xs, k, h => by
    rw [RepK] at h
    obtain ⟨v, vs, rfl, h1, h2⟩ := h
    unfold dget
    by_cases e : n = k
    · rw [if_pos e]
      exact ⟨v, valV_pos e, h1⟩
    · rw [if_neg e, valV_neg e]
      exact RepK.get k h2
theorem RepK.len : ∀ {kvs : List (Key × D)} {xs : List (Key × V)}, RepK K B kvs xs → kvs.length = xs.length
  | [], xs, h => by rw [RepK] at h; subst h; rfl
  | (n, d) :: r, xs, h => by
    rw [RepK] at h
    obtain ⟨v, vs, rfl, h1, h2⟩ := h
    rw [List.length_cons, List.length_cons, RepK.len h2]
theorem RepK.map {k : Key} {d : D} {v : V} (hv : Rep K B d v) : ∀ {kvs : List (Key × D)} {xs : List (Key × V)}, RepK K B kvs xs → RepK K B (kvs.map fun kv => if kv.1 = k then (kv.1, d) else kv) (xs.map fun kv => if kv.1 = k then (kv.1, v) else kv)
  | [], xs, h => by rw [RepK] at h; subst h; rw [List.map_nil, List.map_nil, RepK]
  | (n, d0) :: r, xs, h => by
    rw [RepK] at h
    obtain ⟨v0, vs, rfl, h1, h2⟩ := h
    rw [List.map_cons,
      List.map_cons]
    by_cases e : n = k
    · rw [if_pos e, if_pos e, RepK]
      exact ⟨v, _, rfl, hv, RepK.map hv h2⟩
    · rw [if_neg e, if_neg e, RepK]
      exact ⟨v0, _, rfl, h1, RepK.map hv h2⟩
theorem RepK.snoc {k : Key} {d : D} {v : V} (hv : Rep K B d v) : ∀ {kvs : List (Key × D)} {xs : List (Key × V)}, RepK K B kvs xs → RepK K B (kvs ++ [(k, d)]) (xs ++ [(k, v)])
  | [], xs, h => by
    rw [RepK] at h; subst h
    rw [List.nil_append, List.nil_append, RepK]
    exact ⟨v, [], rfl, hv, by rw [RepK]⟩
  | (n, d0) :: r, xs, h => by
    rw [RepK] at h
    obtain ⟨v0, vs, rfl, h1, h2⟩ := h
    rw [List.cons_append, List.cons_append, RepK]
    exact ⟨v0, _, rfl, h1, RepK.snoc hv h2⟩
theorem RepK.put {k : Key} {d : D} {v : V} (hv : Rep K B d v) {kvs : List (Key × D)} {xs : List (Key × V)} (h : RepK K B kvs xs) : RepK K B (dput kvs k d) (putK xs k v) := by
  have g := h.get k
  unfold dput
  cases e : dget kvs k with
  | some d0 =>
    rw [e] at g
    obtain ⟨v0, g1, _⟩ := g
    have : (xs.any fun kv => decide (kv.1 = k)) = true := by rw [valV_any, g1]; rfl
    rw [if_pos (by rfl), putK, if_pos this]
    exact h.map hv
  | none =>
    rw [e] at g
    rw [if_neg (by decide), putK_new v g]
    exact h.snoc hv
theorem repk_of_all : ∀ {kvs : List (Key × D)} {xs : List (Key × V)} {fps : List (List Addr)}, All3 (fun (d : Key × D) (v : Key × V) fp => d.1 = v.1 ∧ Ow K B H 0 d.2 v.2 fp) kvs xs fps → RepK K B kvs xs
  | _, _, _, .nil => by rw [RepK]
  | _, _, _, .cons (a := (n, d)) (b := (m, v)) r t => by
    obtain ⟨e, r⟩ := r
    cases e
    rw [RepK]
    exact ⟨v, _, rfl, r.2, repk_of_all t⟩
theorem all_of_repk : ∀ {kvs : List (Key × D)} {xs : List (Key × V)}, RepK K B kvs xs → All3 (fun (d : Key × D) (v : Key × V) fp => d.1 = v.1 ∧ Ow K B H 0 d.2 v.2 fp) kvs xs (kvs.map fun _ => [])
  | [], xs, h => by rw [RepK] at h; subst h; exact .nil
  | (n, d) :: r, xs, h => by
    rw [RepK] at h
    obtain ⟨v, vs, rfl, h1, h2⟩ := h
    exact .cons ⟨rfl, rfl, h1⟩ (all_of_repk h2)
theorem Ow.dkO {n : Nat} {kvs : List (Key × D)} {v : V} {fp : List Addr} (h : Ow K B H (n + 1) (.dk kvs) v fp) : ∃ p xs fps, v = .ref p ∧ H p = some (.dK xs) ∧ fp = p :: fps.flatten ∧ All3 (fun (d : Key × D) (v : Key × V) fp => d.1 = v.1 ∧ Ow K B H n d.2 v.2 fp) kvs xs fps := by
  obtain ⟨_, _, _, _, e, _⟩ | ⟨_, _, _, _, e, _⟩ | ⟨_, _, _, _, _, _, e, _⟩ | ⟨kvs', p, xs, fps, e, h1, h2, h3, h4⟩ | ⟨_, _, _, _, e, _⟩ | ⟨e, _⟩ := h
  case inr.inr.inr.inl => cases e; exact ⟨p, xs, fps, h1, h2, h3, h4⟩
  all_goals cases e
theorem Bw.dk (bh : Le B H) {n : Nat} {kvs : List (Key × D)} {v : V} (hn : n ≤ 1) (h : Bw K B H n (.dk kvs) v) : ∃ p xs, v = .ref p ∧ H p = some (.dK xs) ∧ RepK K B kvs xs := by
  obtain ⟨fp, h⟩ := h
  match n, hn, h with
  | 0, _, h =>
    obtain ⟨_, h⟩ := h
    rw [Rep] at h
    obtain ⟨a, xs, h1, h2, h3⟩ := h
    exact ⟨a, xs, h1, bh _ _ h2, h3⟩
  | 1, _, h =>
    obtain ⟨p, xs, fps, h1, hp, _, al⟩ := h.dkO
    exact ⟨p, xs, h1, hp, repk_of_all al⟩
theorem new_dict {kvs : List (Key × D)} {xs : List (Key × V)} {p : Addr} (st : Stp B H B1 H1) (rs : RepK K B1 kvs xs) (hp : H1 p = none) :
    Stp B H B1 (upd H1 p (.dK xs)) ∧ New K H B1 (upd H1 p (.dK xs)) 1 (.dk kvs) (.ref p) [p] := by
  refine ⟨⟨st.bb, st.hh.trans (Le.new hp), st.bh.trans (Le.new hp), st.dj⟩, ⟨.inr (.inr (.inr (.inl ⟨kvs, p, xs, kvs.map fun _ => [], rfl, rfl, upd_same, by rw [flat_nils], all_of_repk rs⟩))), List.nodup_cons.mpr ⟨(fun z => nomatch z), List.nodup_nil⟩, fun a ha => ?_⟩⟩
  rw [List.mem_singleton] at ha
  subst ha
  exact ⟨st.bh.back hp, st.hh.back hp⟩
end
section
variable {K : PySem.W.Frag} {B0 H0 B H : Hp} {σ : L2.St} {ss : En} {fps : List (List Addr)}
theorem SI.dk1 (h : SI K B0 H0 B σ H ss fps) {i : Nat} {kvs : List (Key × D)} (hs : ss[i]? = some (.v 1 (.dk kvs))) :
    ∃ p xs, σ[i]? = some (some (.ref p)) ∧ H p = some (.dK xs) ∧ RepK K B kvs xs ∧ ∀ kvs' xs', RepK K B kvs' xs' → ∃ fps', SI K B0 H0 B σ (upd H p (.dK xs')) (ss.set i (.v 1 (.dk kvs'))) fps' := by
  obtain ⟨o, c, h1, h2, h3⟩ := h.pi.al.get hs
  obtain ⟨v, rfl, ow⟩ := h3
  obtain ⟨p, xs, fpc, rfl, hp, rfl, al⟩ := ow.dkO
  have bare0 : ∀ {α : Type} (l : List α), (l.map fun _ => ([] : List Addr)).flatten = [] := fun l => flat_nils l
  refine ⟨p, xs, h1, hp, repk_of_all al, fun kvs' xs' rs => ⟨_, h.chg (H' := upd H p (.dK xs')) (s' := .v 1 (.dk kvs')) (v := .ref p) (fp' := [p]) h1 h2 (fun a ha => upd_ne fun z => ha (by rw [z]; exact List.mem_cons_self)) ⟨.ref p, rfl, .inr (.inr (.inr (.inl ⟨kvs', p, xs', kvs'.map fun _ => [], rfl, rfl, upd_same, by rw [flat_nils], all_of_repk rs⟩)))⟩ (List.nodup_cons.mpr ⟨(fun z => nomatch z), List.nodup_nil⟩) fun a ha => .inl ?_⟩⟩
  rw [List.mem_singleton] at ha
  rw [ha]
  exact List.mem_cons_self
end
def eDNew : EB := fun _ => .ok (1, .dk [])
/-- k in d (b), k not in d -/
def eDIn (b : Bool) (f1 f2 : EB) : EB := fun ss => match f1 ss with
  | .ok (_, kd) => (match kOf kd with
    | some k => (match f2 ss with
      | .ok (n, .dk kvs) => if n ≤ 1 then .ok (0, .bl ((dget kvs k).isSome == b)) else .no
      | .ok (_, _) => .no
      | .exc e => .exc e
      | .no => .no)
    | none => .no)
  | .exc e => .exc e
  | .no => .no
/-- d[k] = e -/
def sDSet (i : Nat) (fk f : EB) : SM := fun ss => match ss[i]? with
  | some (.v 1 (.dk kvs)) => (match f ss with
    | .ok (0, d) => (match fk ss with
      | .ok (_, kd) => (match kOf kd with
        | some k => if kvs.length < 10000000 then .nx (ss.set i (.v 1 (.dk (dput kvs k d)))) else .no
        | none => .no)
      | .exc e => .exc e ss
      | .no => .no)
    | .ok (_, _) => .no
    | .exc e => .exc e ss
    | .no => .no)
  | _ => .no
theorem kOf_bw {K : PySem.W.Frag} {B H : Hp} {n : Nat} {d : D} {k : Key} {v : V} (h : kOf d = some k) (b : Bw K B H n d v) : v = kV k := by
  have fl : isA d = true := by cases d <;> first | rfl | cases h
  exact kOf_rep h (b.repA fl)
section
variable {X : Cx} {W : WX} {a b e : Expr} {pos pos' : Pos} {f f1 f2 fk : EB}
theorem m_dnew : PE X (.Dict [] [] pos) (tM X.K W eDNew) := by
  refine pe_w pe_dnewK fun σ H Q hq => ?_
  obtain ⟨B, ss, fps, pi, k⟩ := hq
  intro p hp
  obtain ⟨s, n⟩ := new_dict (K := X.K) (kvs := []) (xs := []) (Stp.refl pi.bh) (by rw [RepK]) hp
  exact k B _ _ [p] s n
theorem din_core {σ : L2.St} {H : Hp} {Q : VK} {bb : Bool} {T : V → V → Hp → Prop} (hq : tB X.K W (eDIn bb f1 f2) σ H Q)
    (hT : ∀ (p : Addr) (key : Key) (xs : List (Key × V)) (H2 : Hp), H2 p = some (.dK xs) → Q (.bl ((valV xs key).isSome == bb)) H2 → T (kV key) (.ref p) H2) :
    tB X.K W f1 σ H fun y H1 => tB X.K W f2 σ H1 fun x H2 => T y x H2 := by
  obtain ⟨B, ss, fps, pi, k⟩ := hq
  refine ⟨B, ss, fps, pi, ?_⟩
  unfold eDIn at k
  cases h1 : f1 ss with
  | exc e => simp only [h1] at k; exact k
  | no => simp only [h1] at k
  | ok r =>
    obtain ⟨m, kd⟩ := r
    simp only [h1] at k
    cases h3 : kOf kd with
    | none => simp only [h3] at k
    | some key =>
      simp only [h3] at k
      intro B1 w H1 s1 bw
      have hw := kOf_bw h3 bw
      subst hw
      refine ⟨B1, ss, fps, pi.step s1, ?_⟩
      cases h2 : f2 ss with
      | exc e => simp only [h2] at k; exact fun B' cls dd H' st ex => k B' cls dd H' (s1.trans st) ex
      | no => simp only [h2] at k
      | ok r =>
        obtain ⟨n, d⟩ := r
        cases d <;> first | (simp only [h2] at k; done) | skip
        rename_i kvs
        simp only [h2] at k
        by_cases hn : n ≤ 1
        · rw [if_pos hn] at k
          intro B2 v H2 s2 bw2
          obtain ⟨p, xs, rfl, hp, rs⟩ := bw2.dk s2.bh hn
          refine hT p key xs H2 hp ?_
          have e : (valV xs key).isSome = (dget kvs key).isSome := by
            have g := rs.get key
            cases h4 : dget kvs key with
            | none => rw [h4] at g; rw [show valV xs key = none from g]; rfl
            | some d => rw [h4] at g; obtain ⟨v, g1, _⟩ := g; rw [g1]; rfl
          rw [e]
          exact k B2 _ H2 (s1.trans s2) (bw0 (by rw [Rep]))
        · rw [if_neg hn] at k; exact k.elim
theorem s_dset (hu : X.A.units + 64 < cLine) (i : Nat) {x : Str} {p : Pos} (hb : PE X b (tB X.K W fk)) (he : PE X e (tB X.K W f)) (hN : X.N[i]? = some x := by rfl) (hv : Vis X.env.scope x := by first | exact Or.inl rfl | exact Or.inr (Or.inl rfl) | exact Or.inr (Or.inr rfl)) (hd : (x == ("__debug__" : Str)) = false := by decide) (hcd : (x == ("__classdict__" : Str)) = false := by decide)
    (hsw : swapsWith e (some (.Subscript (.Name x p) b pos')) pos.line X.env = pure false := by rfl) :
    PS X (.Assign [.Subscript (.Name x p) b pos'] e pos) (tS X.K W (sDSet i fk f)) := by
  refine ps_w (ps_dput (by omega) (pe_var hN hv hd hcd) hb he hsw) fun E σ H hq => ?_
  obtain ⟨B0, H0, B, ss, fps, si, k⟩ := tS_get hq
  unfold sDSet at k
  split at k
  · rename_i kvs hi
    refine ⟨B, ss, fps, si.pi, ?_⟩
    cases h1 : f ss with
    | exc e => simp only [h1] at k; exact fun B' cls dd H' st ex => k B' σ H' fps cls dd (si.step st) ex
    | no => simp only [h1] at k; exact k.elim
    | ok r =>
      obtain ⟨n, d⟩ := r
      cases n with
      | succ n => simp only [h1] at k; exact k.elim
      | zero =>
        simp only [h1] at k
        intro B1 v H1 s1 bw
        have rv := bw.rep
        have si1 := si.step s1
        obtain ⟨q, xs, at_, cell, rs, chg⟩ := si1.dk1 hi
        refine ⟨.ref q, at_, B1, ss, fps, si1.pi, ?_⟩
        cases h2 : fk ss with
        | exc e => simp only [h2] at k; exact fun B' cls dd H' st ex => k B' σ H' fps cls dd (si1.step st) ex
        | no => simp only [h2] at k; exact k.elim
        | ok r =>
          obtain ⟨m, kd⟩ := r
          simp only [h2] at k
          cases h3 : kOf kd with
          | none => simp only [h3] at k; exact k.elim
          | some key =>
            simp only [h3] at k
            intro B2 w H2 s2 bw2
            have hw := kOf_bw h3 bw2
            subst hw
            by_cases hl : kvs.length < 10000000
            · rw [if_pos hl] at k
              have si2 := si1.step s2
              obtain ⟨q2, xs2, at2, cell2, rs2, chg2⟩ := si2.dk1 hi
              rw [at_] at at2
              cases at2
              obtain ⟨fps', r⟩ := chg2 _ _ (rs2.put (k := key) (Rep.mono s2.bb _ _ rv))
              exact ⟨q, _, rfl, .inl ⟨xs2, key, cell2, rfl, by rw [← rs2.len]; exact size_lt (by omega), rfl⟩, k B2 σ _ fps' r⟩
            · rw [if_neg hl] at k; exact k.elim
  · exact k.elim
end
end Mv
/-! C() where there is no __init__; a call whose class is read from the data; displays of things that change the slots. -/
namespace Mv
open PySem L2
/-- __init__ is object's -/
structure Mk0 (K : PySem.W.Frag) (C : Addr) : Prop where
  all : (PySem.W.makesIn K C = true ∧ PySem.W.keepIn K (.ref C) = true) ∧ PySem.W.findIn K (.ref C) "__init__" = some (some (.builtin "object.__init__")) ∧ PySem.W.mroIn K C (.type "object") = some true
theorem Mk0.mk' {K : PySem.W.Frag} {C : Addr} (M : Mk0 K C) : PySem.W.makesIn K C = true := M.all.1.1
theorem Mk0.ini {K : PySem.W.Frag} {C : Addr} (M : Mk0 K C) : PySem.W.findIn K (.ref C) "__init__" = some (some (.builtin "object.__init__")) := M.all.2.1
theorem Mk0.obj {K : PySem.W.Frag} {C : Addr} (M : Mk0 K C) : PySem.W.mroIn K C (.type "object") = some true := M.all.2.2
theorem Mk0.kep {K : PySem.W.Frag} {C : Addr} (M : Mk0 K C) : PySem.W.keepIn K (.ref C) = true := M.all.1.2
section
variable {X : Cx} {W : WX} {C : Addr} {x : Str} {p pos : Pos}
theorem run_make0 {pins : List (Addr × Obj)} {σ : L2.St} {H : Hp} {s : Shared} {Q : VK} (M : Mk0 X.K C) (it : Inv X pins σ H s)
    (want : ∀ a dx, H a = none → H dx = none → dx ≠ a → Q (.ref a) (upd (upd H dx (.own a)) a (.ins C dx []))) :
    wpAny (model X.prog X.w) X.A (call (.ref C) []) (L2.EP X pins σ Q) X.xe s := by
  let d := s.heap.objs.size
  have sp1 := want (d + 1) d (it.hok.fresh (Nat.le_succ _)) (it.hok.fresh (Nat.le_refl _)) (Nat.ne_of_lt (Nat.lt_succ_self d))
  have it1 := Inv.made (C := C) it
  apply wpAny_call
  refine make_map0 it.kIn M.mk' M.ini (fun self => PySem.W.Looks.of_pure (PySem.W.oi_bind _)) ?_
  have ho : ((s.heap.push PySem.W.emptyDict).push (PySem.W.instObj C s.heap.objs.size)).get? (s.heap.objs.size + 1) = some (PySem.W.instObj C s.heap.objs.size) := by
    have e : s.heap.objs.size + 1 = (s.heap.push PySem.W.emptyDict).objs.size := by rw [Heap.size_push]
    rw [e]
    exact (Heap.get?_push_size _ rfl)
  have t1 : PySem.W.Looks (model X.prog X.w) ((s.heap.push PySem.W.emptyDict).push (PySem.W.instObj C s.heap.objs.size)) (typeOf (.ref (s.heap.objs.size + 1))) (.ref C) := NwA.type_at ho rfl
  have t2 : PySem.W.Looks (model X.prog X.w) ((s.heap.push PySem.W.emptyDict).push (PySem.W.instObj C s.heap.objs.size)) (isInstance (.ref (s.heap.objs.size + 1)) (.type "object")) true := t1.andThen (PySem.W.looks_mroIn it1.kIn M.obj)
  refine codeAny_call_builtin PySem.W.oi_plain PySem.W.entry_oi (@PySem.W.check_slot (model X.prog X.w) _ _ _ "object.__init__" "object" "__init__" (.ref (s.heap.objs.size + 1)) [] [] _ PySem.W.oi_kind PySem.W.oi_split t2 (NwA.oi_args_any _ _ _) ?_)
  rw [PySem.W.oi_run]
  exact wpAny_pure (And.intro rfl ⟨V.ref (d + 1), _, it1, rfl, sp1⟩)
def tMk0 (C : Addr) : TE := fun σ H Q => ∀ a dx, H a = none → H dx = none → dx ≠ a → Q (.ref a) (upd (upd H dx (.own a)) a (.ins C dx []))
theorem pe_mk0 (M : Mk0 X.K C) (hg : Gl X x) (hm : X.mg x = some (.ref C)) (hdb : (x == ("__debug__" : Str)) = false := by decide) : PE X (.Call (.Name x p) [] [] pos) (tMk0 C) := by
  constructor
  intro ps2 s σ H Q it want
  apply wpAny_Call_Name_kw
  apply ld_glob it hg hm _ hdb
  exact PySem.W.callWith_K0 it.kIn M.kep (run_make0 M it want)
def eMk0 (C : Addr) (n : Nat) : EB := fun _ => .ok (n + 1, .ob C [])
theorem m_mk0 {n : Nat} (M : Mk0 X.K C) (hg : Gl X x) (hm : X.mg x = some (.ref C)) (hdb : (x == ("__debug__" : Str)) = false := by decide) : PE X (.Call (.Name x p) [] [] pos) (tM X.K W (eMk0 C n)) := by
  refine pe_w (pe_mk0 M hg hm hdb) fun σ H Q hq => ?_
  obtain ⟨B, ss, fps, pi, k⟩ := hq
  intro a dx ha hdx hne
  have up : Le H (upd (upd H dx (.own a)) a (.ins C dx [])) := by
    refine (Le.new hdx).trans (Le.new ?_)
    rw [upd_ne fun z => hne z.symm]
    exact ha
  refine k B _ _ [a] ⟨Le.refl B, up, pi.bh.trans up, fun _ z _ => z⟩ ⟨.inr (.inr (.inl ⟨C, [], a, dx, [], [], rfl, rfl, upd_same, rfl, .nil⟩)), List.nodup_cons.mpr ⟨(fun z => nomatch z), List.nodup_nil⟩, fun b hb => ?_⟩
  rw [List.mem_singleton] at hb
  subst hb
  exact ⟨pi.bh.back ha, ha⟩
end
/-! the class is read from the data -/
def eAlt (t : En → Bool) (g1 g2 : EX) : EX := fun ss => if t ss = true then g1 ss else g2 ss
theorem x_alt {X : Cx} {W : WX} {e : Expr} {g1 g2 : EX} (t : En → Bool) (h1 : PE X e (tX X.K W g1)) (h2 : PE X e (tX X.K W g2)) : PE X e (tX X.K W (eAlt t g1 g2)) := by
  refine ⟨fun pins s σ H Q it want => ?_⟩
  obtain ⟨B0, H0, B, ss, fps, si, k⟩ := want
  unfold eAlt at k
  by_cases c : t ss = true
  · rw [if_pos c] at k
    exact h1.run pins s σ H Q it ⟨B0, H0, B, ss, fps, si, k⟩
  · rw [if_neg c] at k
    exact h2.run pins s σ H Q it ⟨B0, H0, B, ss, fps, si, k⟩
/-! [e1, e2, ..], each of which may change the slots -/
inductive OXs where
  | ok (ds : List D) (ss : En) | exc (e : Exo) (ss : En) | no
abbrev xnil : List EX := []
abbrev xcons (g : EX) (gs : List EX) : List EX := g :: gs
def xsGo (n : Nat) : List EX → En → OXs
  | [], ss => .ok [] ss
  | g :: gs, ss => match g ss with
    | .ok m d ss1 => if up m n d = true then (match xsGo n gs ss1 with
      | .ok ds ss2 => .ok (d :: ds) ss2
      | .exc e ss2 => .exc e ss2
      | .no => .no) else .no
    | .exc e ss1 => .exc e ss1
    | .no => .no
def eLstX (n : Nat) (gs : List EX) : EX := fun ss => match xsGo n gs ss with
  | .ok ds ss' => if ds.length ≤ 10000000 then .ok (n + 1) (.lst ds) ss' else .no
  | .exc e ss' => .exc e ss'
  | .no => .no
def tXs (K : PySem.W.Frag) (W : WX) (n : Nat) (gs : List EX) : TA := fun σ H Q => ∃ B0 H0 B ss fps, SI K B0 H0 B σ H ss fps ∧ match xsGo n gs ss with
  | .ok ds ss' => ∀ B' vs H' fps' cs, SI K B0 H0 B' σ H' ss' fps' → All3 (Ow K B' H' n) ds vs cs → cs.flatten.Nodup → (∀ a ∈ cs.flatten, a ∉ fps'.flatten ∧ B' a = none ∧ H0 a = none) → Q vs H'
  | .exc e ss' => ∀ B' cls dd H' fps', SI K B0 H0 B' σ H' ss' fps' → ExR K B' H' e cls dd → W cls dd σ H'
  | .no => False
section
variable {K : PySem.W.Frag} {B0 H0 B B2 H H2 : Hp} {σ : L2.St} {ss ss2 : En} {fps fps2 : List (List Addr)}
/-- what the slots do not own is the base of what follows -/
theorem SI.rebase (h : SI K B0 H0 B σ H ss fps) : SI K B (hideH H fps.flatten) B σ H ss fps :=
  ⟨h.pi, ⟨Le.refl B, (fun a o e => by
    by_cases c : a ∈ fps.flatten
    · rw [hide_in c] at e; cases e
    · rwa [hide_out c] at e), h.pi.bh, fun _ z _ => z⟩, fun a ha => hide_in ha⟩
theorem SI.under (h : SI K B0 H0 B σ H ss fps) : Le H0 (hideH H fps.flatten) := fun a o e => by
  have c : a ∉ fps.flatten := fun z => by rw [h.fr a z] at e; cases e
  rw [hide_out c]
  exact h.st.hh a o e
theorem SI.base (h : SI K B0 H0 B σ H ss fps) (h2 : SI K B (hideH H fps.flatten) B2 σ H2 ss2 fps2) : SI K B0 H0 B2 σ H2 ss2 fps2 :=
  ⟨h2.pi, ⟨h.st.bb.trans h2.st.bb, h.under.trans h2.st.hh, h2.st.bh, fun a z m => h2.st.dj a (h.st.dj a z m) (m.le h.under)⟩, fun a ha => h.under.back (h2.fr a ha)⟩
end
section
variable {X : Cx} {W : WX} {e : Expr} {es : List Expr} {pos : Pos} {g : EX} {gs : List EX} {n : Nat}
theorem xs_nil : PA X [] (tXs X.K W n []) := by
  refine pa_w pa_nil fun σ H Q hq => ?_
  obtain ⟨B0, H0, B, ss, fps, si, k⟩ := hq
  exact k B [] H fps [] si .nil List.nodup_nil fun a z => nomatch z
theorem xs_cons (he : PE X e (tX X.K W g)) (ha : PA X es (tXs X.K W n gs)) (hs : starEach (e :: es) X.env = (false, eval e X.env) :: starEach es X.env := by rfl) : PA X (e :: es) (tXs X.K W n (g :: gs)) := by
  refine pa_w (pa_cons he ha hs) fun σ H Q hq => ?_
  obtain ⟨B0, H0, B, ss, fps, si, k⟩ := hq
  refine ⟨B0, H0, B, ss, fps, si, ?_⟩
  unfold xsGo at k
  cases hg : g ss with
  | exc e ss1 => simp only [hg] at k; exact k
  | no => simp only [hg] at k
  | ok m d ss1 =>
    simp only [hg] at k
    by_cases hu : up m n d = true
    · rw [if_pos hu] at k
      intro B1 v H1 fps1 fp si1 rw1
      refine ⟨B1, hideH H1 fps1.flatten, B1, ss1, fps1, si1.rebase, ?_⟩
      have at1 : ∀ a ∈ fp, Mut (hideH H1 fps1.flatten a) := fun a ha => by
        rw [hide_out (rw1.fr a ha).1]
        exact rw1.ow.at a ha
      cases hx : xsGo n gs ss1 with
      | exc e ss2 =>
        simp only [hx] at k
        exact fun B' cls dd H' fps' si2 ex => k B' cls dd H' fps' (si1.base si2) ex
      | no => simp only [hx] at k
      | ok ds ss2 =>
        simp only [hx] at k
        intro B2 vs H2 fps2 cs si2 al nd fr
        have ow2 : Ow X.K B2 H2 n d v fp := (rw1.ow.up hu).mono si2.st.bb fun a ha => by
          obtain ⟨o, q⟩ := (at1 a ha).some
          have q1 := si2.st.hh a o q
          rw [hide_out (rw1.fr a ha).1] at q
          rw [q, q1]
        refine k B2 (v :: vs) H2 fps2 (fp :: cs) (si1.base si2) (.cons ow2 al) ?_ fun a ha => ?_
        · rw [List.flatten_cons]
          refine List.nodup_append.mpr ⟨rw1.nd, nd, fun a ha b hb eab => ?_⟩
          subst eab
          obtain ⟨o, q⟩ := (at1 a ha).some
          rw [(fr a hb).2.2] at q
          cases q
        · rw [List.flatten_cons] at ha
          rcases List.mem_append.mp ha with z | z
          · refine ⟨fun y => ?_, si2.st.dj a (rw1.fr a z).2.1 (at1 a z), (rw1.fr a z).2.2⟩
            obtain ⟨o, q⟩ := (at1 a z).some
            rw [si2.fr a y] at q
            cases q
          · exact ⟨(fr a z).1, (fr a z).2.1, si1.under.back (fr a z).2.2⟩
    · rw [if_neg hu] at k; exact k.elim
theorem x_lst (ha : PA X es (tXs X.K W n gs)) : PE X (.List es pos) (tX X.K W (eLstX n gs)) := by
  refine pe_w (pe_lst ha) fun σ H Q hq => ?_
  obtain ⟨B0, H0, B, ss, fps, si, k⟩ := hq
  refine ⟨B0, H0, B, ss, fps, si, ?_⟩
  unfold eLstX at k
  cases hg : xsGo n gs ss with
  | exc e ss1 => simp only [hg] at k; exact k
  | no => simp only [hg] at k
  | ok ds ss1 =>
    simp only [hg] at k
    by_cases hl : ds.length ≤ 10000000
    · rw [if_pos hl] at k
      intro B1 vs H1 fps1 cs si1 al nd fr
      refine ⟨by rw [← al.len1]; exact size_ok hl, fun p hp => ?_⟩
      have le : Le H1 (upd H1 p (.lst vs)) := Le.new hp
      have h0p : H0 p = none := si1.st.hh.back hp
      have bp : B1 p = none := si1.pi.bh.back hp
      have out : ∀ a, (∃ o, H1 a = some o) → a ≠ p := fun a ⟨o, q⟩ e => by rw [e, hp] at q; cases q
      refine k B1 (.ref p) _ fps1 (p :: cs.flatten) (si1.step ⟨Le.refl B1, le, si1.pi.bh.trans le, fun _ z _ => z⟩) ⟨.inl ⟨ds, p, vs, cs, rfl, rfl, upd_same, rfl, al.imp fun a b c _ r => r.le (Le.refl B1) le⟩, List.nodup_cons.mpr ⟨fun z => ?_, nd⟩, fun a ha => ?_⟩
      · obtain ⟨c2, h1, h2⟩ := List.mem_flatten.mp z
        have : ∀ {as : List D} {bs : List V} {cs : List (List Addr)}, All3 (Ow X.K B1 H1 n) as bs cs → c2 ∈ cs → Mut (H1 p) := fun h => by
          induction h with
          | nil => intro z; cases z
          | cons r t ih =>
            intro z
            rcases List.mem_cons.mp z with e | e
            · subst e; exact r.at p h2
            · exact ih e
        obtain ⟨xs, q⟩ := (this al h1).some
        rw [hp] at q; cases q
      · rcases List.mem_cons.mp ha with e | e
        · subst e
          refine ⟨fun z => ?_, bp, h0p⟩
          obtain ⟨o, q⟩ := (si1.pi.here a z).some
          rw [hp] at q; cases q
        · exact fr a e
    · rw [if_neg hl] at k; exact k.elim
end
end Mv
/-! Tests: k in d; f(..) == e where the call lends. -/
namespace Mv
open PySem L2
section
variable {X : Cx} {W : WX} {a b : Expr} {pos : Pos} {f f1 f2 : EB} {g : EX}
theorem t_dnotin (hu : X.A.units + 64 < cLine) (hi : PE X a (tB X.K W f1)) (ho : PE X b (tB X.K W f2)) (hm : behindInMarks .NotIn b = false := by with_unfolding_all rfl) : PT X (.Compare a [.NotIn] [b] pos) (tT X.K W (eTest (eDIn false f1 f2))) :=
  pt_w (pt_cmp (pc_dnotin (by omega) hi ho) hm) fun σ H Q hq => din_core (test_of hq) fun p key xs H2 hp q => ⟨p, _, rfl, DGet.k hp, by simpa using q⟩
def eCmpX (op2 : D → D → Option D) (g : EX) (f : EB) : EX := fun ss => match g ss with
  | .ok 0 d ss1 => (match f ss1 with
    | .ok (_, d2) => (match op2 d d2 with
      | some (.bl b) => .ok 0 (.bl b) ss1
      | _ => .no)
    | .exc e => .exc e ss1
    | .no => .no)
  | .exc e ss1 => .exc e ss1
  | _ => .no
theorem xt_cmp {op : CmpOp} {r : R2} {op2 : D → D → Option D} (ho : OpR X (compareOp op) r) (hg : OpOk X.K r op2) (ha : PE X a (tX X.K W g)) (hb : PE X b (tB X.K W f)) (hm : behindInMarks op b = false) : PT X (.Compare a [op] [b] pos) (tXT X.K W (eCmpX op2 g f)) := by
  refine pt_w (pt_cmpR ho ha hb hm) fun σ H Q hq => ?_
  obtain ⟨B0, H0, B, ss, fps, si, k⟩ := hq
  refine ⟨B0, H0, B, ss, fps, si, ?_⟩
  unfold eCmpX at k
  cases h : g ss with
  | exc e ss' => simp only [h] at k; exact k
  | no => simp only [h] at k
  | ok n d ss' =>
    simp only [h] at k
    cases n with
    | succ n => exact k.elim
    | zero =>
      simp only at k
      intro B1 v H1 fps1 fp si1 rw1
      refine ⟨B1, ss', fps1, si1.pi, ?_⟩
      cases h2 : f ss' with
      | exc e => simp only [h2] at k; exact fun B' cls dd H' st ex => k B' cls dd H' fps1 (si1.step st) ex
      | no => simp only [h2] at k
      | ok r =>
        obtain ⟨n2, d2⟩ := r
        simp only [h2] at k
        intro B2 y H2 s2 bY
        cases h3 : op2 d d2 with
        | none => simp only [h3] at k
        | some z =>
          simp only [h3] at k
          cases z <;> first | exact k.elim | skip
          rename_i bb
          refine hg H2 d d2 (.bl bb) v y _ ?_ (bY.here s2.bh) h3 fun w rw2 => ⟨bb, ?_, k B2 H2 fps1 (si1.step s2)⟩
          · exact Rep.mono (s2.bb.trans s2.bh) _ _ rw1.ow.2
          · have := rw2 B2
            rw [Rep] at this
            exact this
end
end Mv
/-! Typed readings: what a mirror computes on typed values. -/
namespace Ty
open PySem L2 Mv
/-! ### values -/
section
variable {α β γ δ ε : Type}
abbrev eL (f : α → D) (xs : List α) : D := .lst (xs.map f)
abbrev eT (f : α → D) (xs : List α) : D := .tup (xs.map f)
abbrev eR (f : α → D) (xs : List α) : D := .rdl (xs.map f)
abbrev eU (_ : Unit) : D := .non
abbrev eP3 (f : α → D) (g : β → D) (h : γ → D) (p : α × β × γ) : D := .tup [f p.1, g p.2.1, h p.2.2]
def eN (f : α → D) : Option α → D
  | none => .non
  | some a => f a
/-- plain: told apart by their data -/
structure PlE (f : α → D) (k : Nat) : Prop where
  inj : Function.Injective f
  pl : ∀ a n, pl (f a) (n + k) = true
  cp : ∀ a b, cp (f a) (f b) = true
theorem ple_int : PlE D.int 0 := ⟨int_inj, fun _ _ => rfl, fun _ _ => rfl⟩
theorem ple_L {f : α → D} {k : Nat} (h : PlE f k) : PlE (eL f) (k + 1) := ⟨fun a b e => by injection e with e; exact map_inj h.inj e, fun a n => by
  show Mv.pl (.lst (a.map f)) (n + k + 1) = true
  rw [Mv.pl]; simp [pls_map (n := n + k) (f := f) (fun a => h.pl a n) a], fun a b => by
  show Mv.cp (.lst _) (.lst _) = true
  rw [Mv.cp]; exact cps_map h.cp a b⟩
end
/-! ### what is computed -/
section
variable {α β γ σ σ' κ κ' ρ : Type}
def bN (r : Res α) (k : α → Res β) : Res β := match r with
  | .ok v => k v
  | _ => .no
inductive O (σ κ ρ : Type) where
  | nx (s : σ) | rt (r : ρ) | bk (s : κ) | ct (s : κ) | exc (e : Exo) | no
def oN (r : Res α) (k : α → O σ κ ρ) : O σ κ ρ := match r with
  | .ok v => k v
  | _ => .no
def oB (x : O σ' κ ρ) (k : σ' → O σ κ ρ) : O σ κ ρ := match x with
  | .nx s => k s
  | .rt r => .rt r
  | .bk s => .bk s
  | .ct s => .ct s
  | .exc e => .exc e
  | .no => .no
def lt (a : α) (k : α → β) : β := k a
def oFor (body : α → κ → O κ κ ρ) : List α → κ → O κ κ' ρ
  | [], s => .nx s
  | x :: xs, s => match body x s with
    | .nx s' => oFor body xs s'
    | .ct s' => oFor body xs s'
    | .bk s' => .nx s'
    | .rt r => .rt r
    | .exc e => .exc e
    | .no => .no
def oRes (x : O Unit Empty ρ) : Res ρ := match x with
  | .rt r => .ok r
  | .exc e => .exc e
  | _ => .no
def ixR (xs : List α) (z : Int) : Res α := match atI xs z with
  | some a => .ok a
  | none => .no
def modR (a b : Int) : Res Int := if 0 < b then .ok (a % b) else .no
def divR (a b : Int) : Res Int := if 0 < b ∧ b.natAbs.log2 < 9000 then .ok (a / b) else .no
def mulR (a b : Int) : Res Int := if a.natAbs.log2 + b.natAbs.log2 < 1000000 then .ok (a * b) else .no
def rngI (lo : Int) (n : Nat) : List Int := (List.range n).map fun (i : Nat) => lo + (i : Int)
def rngR (n : Int) : Res (List Int) := if smallI n = true then .ok (rngI 0 n.toNat) else .no
def appR (xs : List α) (v : α) : Res (List α) := if xs.length < 10000000 then .ok (xs ++ [v]) else .no
def indexR (xs : List Int) (v : Int) : Res Int := match xs.findIdx? (fun j => decide (j = v)) with
  | some j => .ok (j : Nat)
  | none => .no
def absI (i : Int) : Int := if i < 0 then -i else i
def min2 (i j : Int) : Int := if j < i then j else i
def lcG (p : α → Res Bool) (g : α → Res β) : List α → Res (List β)
  | [] => .ok []
  | x :: xs => match p x with
    | .ok true => (match g x with
      | .ok e => (match lcG p g xs with
        | .ok r => .ok (e :: r)
        | _ => .no)
      | _ => .no)
    | .ok false => lcG p g xs
    | _ => .no
def lcR (xs : List α) (p : α → Res Bool) (g : α → Res β) : Res (List β) := if xs.length < 10000000 then lcG p g xs else .no
def andR (a b : Res Bool) : Res Bool := match a with
  | .ok true => b
  | .ok false => .ok false
  | _ => .no
def orR (a b : Res Bool) : Res Bool := match a with
  | .ok false => b
  | .ok true => .ok true
  | _ => .no
end
/-! ### mirror and typed reading agree -/
section
variable {α β γ σ σ' κ κ' ρ : Type}
structure Sr (n : Nat) (enc : α → D) (x : Res (Nat × D)) (y : Res α) : Prop where
  ok : ∀ {a : α}, y = .ok a → x = .ok (n, enc a)
  ex : ∀ {e : Exo}, y = .exc e → x = .exc e
/-- an expression's block -/
structure Se (n : Nat) (enc : α → D) (x : Res (Nat × D)) (y : Res α) : Prop where
  ok : ∀ {a : α}, y = .ok a → x = .ok (n, enc a)
theorem se_ok {n : Nat} {enc : α → D} {x : Res (Nat × D)} {a : α} (h : x = .ok (n, enc a)) : Se n enc x (.ok a) := ⟨fun e => by cases e; exact h⟩
theorem se_bN {n : Nat} {enc : β → D} {x : Res (Nat × D)} {r : Res α} {k : α → Res β} (h : ∀ v, r = .ok v → Se n enc x (k v)) : Se n enc x (bN r k) := ⟨fun {a} e => by
  unfold bN at e
  cases hr : r with
  | ok v => rw [hr] at e; exact (h v hr).ok e
  | exc x => rw [hr] at e; cases e
  | no => rw [hr] at e; cases e⟩
/-- a test's block -/
structure St' (x : Res Bool) (y : Res Bool) : Prop where
  ok : ∀ {a : Bool}, y = .ok a → x = .ok a
theorem st_ok {x : Res Bool} {a : Bool} (h : x = .ok a) : St' x (.ok a) := ⟨fun e => by cases e; exact h⟩
theorem st_bN {x : Res Bool} {r : Res α} {k : α → Res Bool} (h : ∀ v, r = .ok v → St' x (k v)) : St' x (bN r k) := ⟨fun {a} e => by
  unfold bN at e
  cases hr : r with
  | ok v => rw [hr] at e; exact (h v hr).ok e
  | exc x => rw [hr] at e; cases e
  | no => rw [hr] at e; cases e⟩
theorem st_and {t u : ET} {ss : En} {a b : Res Bool} (h1 : St' (t ss) a) (h2 : St' (u ss) b) : St' (tyAnd t u ss) (andR a b) := ⟨fun {r} e => by
  unfold andR at e
  cases a with
  | ok a =>
    have q := h1.ok rfl
    cases a with
    | true => rw [tand_t q]; exact h2.ok e
    | false => cases e; exact tand_f q
  | exc x => cases e
  | no => cases e⟩
theorem st_or {t u : ET} {ss : En} {a b : Res Bool} (h1 : St' (t ss) a) (h2 : St' (u ss) b) : St' (tyOr t u ss) (orR a b) := ⟨fun {r} e => by
  unfold orR at e
  cases a with
  | ok a =>
    have q := h1.ok rfl
    cases a with
    | false => rw [tor_f q]; exact h2.ok e
    | true => cases e; exact tor_t q
  | exc x => cases e
  | no => cases e⟩
/-- a statement's block -/
def SmP (E : σ → En → Prop) (EK : κ → En → Prop) (EX : En → Prop) (RT : ρ → SO → Prop) (x : SO) (y : O σ κ ρ) : Prop := match y with
  | .nx s => ∃ ss, x = .nx ss ∧ E s ss
  | .rt r => RT r x
  | .bk s => ∃ ss, x = .bk ss ∧ EK s ss
  | .ct s => ∃ ss, x = .ct ss ∧ EK s ss
  | .exc e => ∃ ss, x = .exc e ss ∧ EX ss
  | .no => True
structure Sm (E : σ → En → Prop) (EK : κ → En → Prop) (EX : En → Prop) (RT : ρ → SO → Prop) (x : SO) (y : O σ κ ρ) : Prop where
  out : SmP E EK EX RT x y
/-- what returns looks alike behind any statement -/
structure Rets (RT : ρ → SO → Prop) : Prop where
  all : ∀ r x, RT r x → (∃ n d, x = .rt n d) ∨ (∃ d ss, x = .ru d ss) ∨ (∃ n d ss, x = .rn n d ss)
variable {E : σ → En → Prop} {EK : κ → En → Prop} {EX : En → Prop} {RT : ρ → SO → Prop} {F G A B : SM} {ss s' : En} {x : SO} {y : O σ κ ρ}
theorem seq_next (F : SM) (ss : En) : sSeq F sNext ss = F ss := by
  unfold sSeq
  cases F ss <;> rfl
theorem seq_assoc (A B G : SM) (ss : En) : sSeq (sSeq A B) G ss = sSeq A (sSeq B G) ss := by
  unfold sSeq
  cases A ss <;> rfl
theorem sm_one (h : Sm E EK EX RT (sSeq F sNext ss) y) : Sm E EK EX RT (F ss) y := by rw [seq_next] at h; exact h
theorem sm_assoc (h : Sm E EK EX RT (sSeq A (sSeq B G) ss) y) : Sm E EK EX RT (sSeq (sSeq A B) G ss) y := by rw [seq_assoc]; exact h
theorem sm_no (h : Sm E EK EX RT (G ss) y) : Sm E EK EX RT (sSeq sNext G ss) y := h
theorem sm_end {s : σ} (h : E s ss) : Sm E EK EX RT (sNext ss) (.nx s) := ⟨⟨ss, rfl, h⟩⟩
theorem sm_N {r : Res α} {k : α → O σ κ ρ} (h : ∀ v, r = .ok v → Sm E EK EX RT x (k v)) : Sm E EK EX RT x (oN r k) := by
  unfold oN
  cases hr : r with
  | ok v => exact h v hr
  | exc e => exact ⟨True.intro⟩
  | no => exact ⟨True.intro⟩
theorem sm_lt {a : α} {k : α → O σ κ ρ} (h : ∀ v, a = v → Sm E EK EX RT x (k v)) : Sm E EK EX RT x (lt a k) := h a rfl
theorem tr {x : Res (Nat × D)} {n : Nat} {enc : α → D} {e v : α} (h : x = .ok (n, enc e)) (hv : e = v) : x = .ok (n, enc v) := by rw [← hv]; exact h
theorem tc {x : Res (Nat × D)} {n : Nat} (d : D) (h : x = .ok (n, d)) : x = .ok (n, d) := h
theorem sm_st (h : F ss = .nx s') (k : Sm E EK EX RT (G s') y) : Sm E EK EX RT (sSeq F G ss) y := by rw [seq_nx h]; exact k
theorem sm_asg {i n : Nat} {e : EB} {d : D} (s' : En) (h : e ss = .ok (n, d)) (hs : ss.set i (.v n d) = s') (k : Sm E EK EX RT (G s') y) : Sm E EK EX RT (sSeq (sAsg i e) G ss) y := sm_st (ev_asg h hs) k
theorem sm_frz {i n : Nat} {d : D} (s' : En) (h : ss[i]? = some (.v n d)) (hs : ss.set i (.v 0 d) = s') (k : Sm E EK EX RT (sSeq F G s') y) : Sm E EK EX RT (sSeq (sFrz i F) G ss) y := by
  have e : sSeq (sFrz i F) G ss = sSeq F G s' := by unfold sSeq; rw [frzS_at h, hs]
  rw [e]; exact k
theorem sm_if {t : ET} {b : Bool} {y1 y2 : O σ κ ρ} (ht : t ss = .ok b) (h1 : b = true → Sm E EK EX RT (sSeq A G ss) y1) (h2 : b = false → Sm E EK EX RT (sSeq B G ss) y2) : Sm E EK EX RT (sSeq (sIf t A B) G ss) (if b = true then y1 else y2) := by
  have e : sSeq (sIf t A B) G ss = if b = true then sSeq A G ss else sSeq B G ss := by
    unfold sSeq sIf; rw [ht]
    cases b <;> rfl
  rw [e]
  cases b with
  | true => exact h1 rfl
  | false => exact h2 rfl
theorem sm_B {E' : σ' → En → Prop} {q : O σ' κ ρ} {k : σ' → O σ κ ρ} (R : Rets RT) (h : Sm E' EK EX RT (F ss) q) (kk : ∀ s ss', E' s ss' → Sm E EK EX RT (G ss') (k s)) : Sm E EK EX RT (sSeq F G ss) (oB q k) := by
  unfold oB
  cases q with
  | nx s =>
    obtain ⟨s1, e, h1⟩ := h
    rw [seq_nx e]
    exact kk s s1 h1
  | rt r =>
    have h' : RT r (F ss) := h.out
    refine ⟨?_⟩
    show RT r _
    have e : sSeq F G ss = F ss := by
      unfold sSeq
      rcases R.all _ _ h' with ⟨n, d, z⟩ | ⟨d, s2, z⟩ | ⟨n, d, s2, z⟩ <;> rw [z]
    rw [e]; exact h'
  | bk s => obtain ⟨s1, e, h1⟩ := h; exact ⟨s1, by unfold sSeq; rw [e], h1⟩
  | ct s => obtain ⟨s1, e, h1⟩ := h; exact ⟨s1, by unfold sSeq; rw [e], h1⟩
  | exc ex => obtain ⟨s1, e, h1⟩ := h; exact ⟨s1, by unfold sSeq; rw [e], h1⟩
  | no => exact ⟨True.intro⟩
theorem rets_rt {n : Nat} {enc : ρ → D} : Rets (fun r x => x = SO.rt n (enc r)) := ⟨fun r x h => .inl ⟨_, _, h⟩⟩
theorem sm_ret {n : Nat} {enc : ρ → D} {e : EB} {r : ρ} (h : e ss = .ok (n, enc r)) : Sm E EK EX (fun r x => x = SO.rt n (enc r)) (sSeq (sRet e) G ss) (.rt r) := by
  refine ⟨?_⟩
  show _ = _
  unfold sSeq sRet; rw [h]
theorem sm_retV {i n : Nat} {enc : ρ → D} {r : ρ} (h : ss[i]? = some (.v n (enc r))) : Sm E EK EX (fun r x => x = SO.rt n (enc r)) (sSeq (sRetV i) G ss) (.rt r) := by
  refine ⟨?_⟩
  show _ = _
  unfold sSeq sRetV; rw [h]
/-- a step of a loop -/
theorem sm_step {tgt : Tgt} {d : D} (s' : En) (h : tgt d ss = some s') (k : Sm E EK EX RT (F s') y) : Sm E EK EX RT (stepF tgt F d ss) y := by
  unfold stepF; rw [h]; exact k
theorem loop_sm {IV : κ' → En → Prop} (R : Rets RT) {step : D → SM} {enc : α → D} {body : α → κ' → O κ' κ' ρ} (hb : ∀ x s ss, IV s ss → Sm IV IV EX RT (step (enc x) ss) (body x s)) : ∀ (xs : List α) (s : κ') (ss : En), IV s ss → Sm (κ := κ) IV EK EX RT (loop step (xs.map enc) ss) (oFor body xs s)
  | [], s, ss, h => ⟨ss, rfl, h⟩
  | x :: xs, s, ss, h => by
    have q := hb x s ss h
    rw [List.map_cons]
    unfold loop oFor
    cases hx : body x s with
    | nx s1 => rw [hx] at q; obtain ⟨s2, e, h2⟩ := q; rw [e]; exact loop_sm R hb xs s1 s2 h2
    | ct s1 => rw [hx] at q; obtain ⟨s2, e, h2⟩ := q; rw [e]; exact loop_sm R hb xs s1 s2 h2
    | bk s1 => rw [hx] at q; obtain ⟨s2, e, h2⟩ := q; rw [e]; exact ⟨s2, rfl, h2⟩
    | rt r =>
      rw [hx] at q
      have q' : RT r (step (enc x) ss) := q.out
      refine ⟨?_⟩
      show RT r _
      rcases R.all _ _ q' with ⟨n, d, z⟩ | ⟨d, s2, z⟩ | ⟨n, d, s2, z⟩
      · rw [z] at q' ⊢; exact q'
      · rw [z] at q' ⊢; exact q'
      · rw [z] at q' ⊢; exact q'
    | exc e1 => rw [hx] at q; obtain ⟨s2, e, h2⟩ := q; rw [e]; exact ⟨s2, rfl, h2⟩
    | no => exact ⟨True.intro⟩
theorem sm_for {IV : κ' → En → Prop} (R : Rets RT) {it : EI} {tgt : Tgt} {enc : α → D} {xs : List α} {s0 : κ'} {body : α → κ' → O κ' κ' ρ} {k : κ' → O σ κ ρ} (hi : it ss = .ok (xs.map enc)) (h0 : IV s0 ss) (hb : ∀ x s ss, IV s ss → Sm IV IV EX RT (stepF tgt F (enc x) ss) (body x s))
    (kk : ∀ s ss', IV s ss' → Sm E EK EX RT (G ss') (k s)) : Sm E EK EX RT (sSeq (sFor it tgt F) G ss) (oB (oFor body xs s0) k) := by
  refine sm_B R ?_ kk
  unfold sFor
  rw [hi]
  exact loop_sm R hb xs s0 ss h0
end
end Ty
namespace Ty
open PySem L2 Mv
section
variable {α β γ σ σ' κ κ' ρ : Type} {enc : α → D} {enc2 : β → D} {f f1 f2 f3 g fi fe : EB} {ga g1 : EA} {ss s' : En} {n m k i j : Nat} {xs ys : List α} {a b c z : Int} {v : α} {d : D} {ds : List D}
theorem atI_mapf (F : α → β) (xs : List α) (z : Int) : atI (xs.map F) z = (atI xs z).map F := by
  unfold atI
  rw [List.length_map]
  cases ixN xs.length z with
  | none => rfl
  | some j => simp
theorem ix_l (hf : f ss = .ok (n, eL enc xs)) (hg : g ss = .ok (m, .int z)) (hv : ixR xs z = .ok v) (hk : n - 1 = k := by rfl) : eIx f g ss = .ok (k, enc v) := by
  unfold ixR at hv
  cases h : atI xs z with
  | none => rw [h] at hv; cases hv
  | some x =>
    rw [h] at hv; cases hv
    unfold eIx; rw [hf]; simp only [hg, ixD, atI_mapf, h, Option.map_some, hk]
theorem ix_t (hf : f ss = .ok (0, eT enc xs)) (hg : g ss = .ok (m, .int z)) (hv : ixR xs z = .ok v) : eIx f g ss = .ok (0, enc v) := by
  unfold ixR at hv
  cases h : atI xs z with
  | none => rw [h] at hv; cases hv
  | some x =>
    rw [h] at hv; cases hv
    unfold eIx; rw [hf]; simp only [hg, ixD, if_true, atI_mapf, h, Option.map_some]
theorem ix_r (hf : f ss = .ok (n, eR enc xs)) (hg : g ss = .ok (m, .int z)) (hv : ixR xs z = .ok v) : eIx f g ss = .ok (0, enc v) := by
  unfold ixR at hv
  cases h : atI xs z with
  | none => rw [h] at hv; cases hv
  | some x =>
    rw [h] at hv; cases hv
    unfold eIx; rw [hf]; simp only [hg, ixD, atI_mapf, h, Option.map_some]
theorem ix_c (k : Nat) (hf : f ss = .ok (0, .tup ds)) (hg : g ss = .ok (m, .int (k : Int))) (hx : ds[k]? = some d) : eIx f g ss = .ok (0, d) := ev_ixT hf hg hx
theorem len_l (h : f ss = .ok (n, eL enc xs)) : eCall gLen (aCons f aNil) ss = .ok (0, .int (xs.length : Int)) := call_ok (aOne h) (by unfold gLen; simp)
theorem len_t (h : f ss = .ok (n, eT enc xs)) : eCall gLen (aCons f aNil) ss = .ok (0, .int (xs.length : Int)) := call_ok (aOne h) (by unfold gLen; simp)
theorem len_r (h : f ss = .ok (n, eR enc xs)) : eCall gLen (aCons f aNil) ss = .ok (0, .int (xs.length : Int)) := call_ok (aOne h) (by unfold gLen; simp)
theorem abs_o (h : f ss = .ok (n, .int a)) : eCall gAbs (aCons f aNil) ss = .ok (0, .int (absI a)) := call_ok (aOne h) rfl
theorem toi_o (h : f ss = .ok (n, .int a)) : eCall gToInt (aCons f aNil) ss = .ok (0, .int a) := call_ok (aOne h) rfl
theorem min_o (h : f ss = .ok (n, .int a)) (hg : g ss = .ok (m, .int b)) : eCall gMin2 (aCons f (aCons g aNil)) ss = .ok (0, .int (min2 a b)) := call_ok (aC_ok h (aOne hg)) rfl
theorem mod_l (h1 : f1 ss = .ok (n, .int a)) (h2 : f2 ss = .ok (m, .int b)) (hb : 0 < b := by decide) : eOp gMod f1 f2 ss = .ok (0, .int (a % b)) := mod_ok h1 h2 hb
theorem div_l (h1 : f1 ss = .ok (n, .int a)) (h2 : f2 ss = .ok (m, .int b)) (hb : 0 < b := by decide) (hc : b < 4611686018427387904 := by decide) : eOp gDiv f1 f2 ss = .ok (0, .int (a / b)) := div_ok h1 h2 hb hc
theorem mod_r (h1 : f1 ss = .ok (n, .int a)) (h2 : f2 ss = .ok (m, .int b)) (hv : modR a b = .ok c) : eOp gMod f1 f2 ss = .ok (0, .int c) := by
  unfold modR at hv
  split at hv
  · rename_i q; cases hv; exact mod_ok h1 h2 q
  · cases hv
theorem div_r (h1 : f1 ss = .ok (n, .int a)) (h2 : f2 ss = .ok (m, .int b)) (hv : divR a b = .ok c) : eOp gDiv f1 f2 ss = .ok (0, .int c) := by
  unfold divR at hv
  split at hv
  · rename_i q; cases hv
    refine op_ok h1 h2 ?_
    unfold gDiv gIntC
    simp [q.1, q.2]
  · cases hv
theorem mul_r (h1 : f1 ss = .ok (n, .int a)) (h2 : f2 ss = .ok (m, .int b)) (hv : mulR a b = .ok c) : eOp gMul f1 f2 ss = .ok (0, .int c) := by
  unfold mulR at hv
  split at hv
  · rename_i q; cases hv
    refine op_ok h1 h2 ?_
    unfold gMul gIntC
    simp [q]
  · cases hv
theorem pow_l {e : Nat} (hn : e ≤ 1000000 := by decide) (ha : a.natAbs < 18446744073709551616 := by decide) : eOp gPow (eC (.int a)) (eC (.int (e : Int))) ss = .ok (0, .int (a ^ e)) := pow_ok hn ha
theorem neg_o (h : f ss = .ok (n, .int a)) : eUn gNeg f ss = .ok (0, .int (-a)) := un_ok h rfl
theorem ne_P {j : Nat} [DecidableEq α] {x y : α} (h : PlE enc j) (hj : j ≤ 60) (h1 : f1 ss = .ok (n, enc x)) (h2 : f2 ss = .ok (m, enc y)) : eOp gNe f1 f2 ss = .ok (0, .bl (!decide (x = y))) := by
  obtain ⟨q, hq⟩ := Nat.exists_eq_add_of_le hj
  refine op_ok h1 h2 ?_
  unfold gNe
  rw [gEq_inj h.inj (fun a => by rw [hq, Nat.add_comm]; exact h.pl a q) x y (h.cp x y)]
theorem isn {o : Option α} (he : ∀ a, enc a ≠ .non) (h1 : f1 ss = .ok (n, eN enc o)) (h2 : f2 ss = .ok (m, .non)) : eOp gIsN f1 f2 ss = .ok (0, .bl o.isNone) := by
  refine op_ok h1 h2 ?_
  cases o with
  | none => rfl
  | some a =>
    show gIsN (enc a) .non = _
    have := he a
    cases h : enc a <;> first | rfl | exact absurd h this
theorem in_l {is : List Int} (h1 : f1 ss = .ok (n, .int a)) (h2 : f2 ss = .ok (m, eL D.int is)) : eOp (gIn false) f1 f2 ss = .ok (0, .bl (decide (a ∈ is))) := op_ok h1 h2 (by unfold gIn; simp only [intsOf_ints, Option.map_some]; rfl)
theorem isi_k {T : String} {r : Bool} (h : f ss = .ok (n, d)) (hk : gIsi T d = some (.bl r)) : eUn (gIsi T) f ss = .ok (0, .bl r) := un_ok h hk
/-! lists -/
theorem lst_o (h : ga ss = .ok (xs.map enc)) (hl : xs.length ≤ 10000000 := by exact Nat.le_of_ble_eq_true rfl) : eLst ga ss = .ok (1, eL enc xs) := by
  unfold eLst; rw [h]
  dsimp only
  rw [if_pos (by rw [List.length_map]; exact hl)]
theorem tup_o (h : ga ss = .ok ds) (hl : ds.length ≤ 10000000 := by exact Nat.le_of_ble_eq_true rfl) : eTup ga ss = .ok (0, .tup ds) := ev_tup h hl
theorem a_nil' : aNil ss = .ok (([] : List α).map enc) := rfl
theorem a_con (h : f ss = .ok (0, enc v)) (hg : ga ss = .ok (xs.map enc)) : a0Cons f ga ss = .ok ((v :: xs).map enc) := a0_ok h hg
theorem pn : pNone ss = .ok none := rfl
theorem ps (h : f ss = .ok (n, .int a)) : pSome f ss = .ok (some a) := by unfold pSome; rw [h]
theorem list_l (hf : f ss = .ok (n, eL enc xs)) (hn : n ≤ 1 := by decide) : eList f ss = .ok (1, eL enc xs) := by
  unfold eList; simp only [hf, hn, if_true]
theorem tupof_l (hf : f ss = .ok (n, eL enc xs)) (hn : n ≤ 1 := by decide) : eTupOf f ss = .ok (0, eT enc xs) := by
  unfold eTupOf; simp only [hf, hn, if_true]
theorem rngD_map (lo : Int) (n : Nat) : rngD lo n = (rngI lo n).map D.int := by
  unfold rngD rngI
  rw [List.map_map]; rfl
theorem index_o {is : List Int} (hf : f ss = .ok (n, eL D.int is)) (hg : g ss = .ok (m, .int a)) (hv : indexR is a = .ok z) (hn : n ≤ 1 := by decide) : eIndex f g ss = .ok (0, .int z) := by
  unfold indexR at hv
  split at hv
  · rename_i q; cases hv
    unfold eIndex; rw [hf]; simp only [hn, if_true, hg, intsOf_ints, q]
  · cases hv
/-! iterators -/
theorem it_l (hf : f ss = .ok (0, eL enc xs)) : iSeq f ss = .ok (xs.map enc) := by unfold iSeq; rw [hf]; rfl
theorem it_1 {is : List Int} (hf : f ss = .ok (n, .int a)) (hv : rngR a = .ok is) : iRg1 (aCons f aNil) ss = .ok (is.map D.int) := by
  unfold rngR at hv
  split at hv
  · rename_i q; cases hv
    unfold iRg1; rw [aOne hf]; simp only [q, if_true, rngD_map]
  · cases hv
/-! comprehensions -/
theorem lcG_o {tgt : Tgt} {tc : ET} {sw : En} {p : α → Res Bool} {gg : α → Res β} (h : ∀ x, ∃ s1, tgt (enc x) sw = some s1 ∧ St' (tc s1) (p x) ∧ Se 0 enc2 (fe s1) (gg x)) : ∀ (xs : List α) (r : List β), lcG p gg xs = .ok r → lcL tgt tc fe sw (xs.map enc) = .ok (r.map enc2)
  | [], r, e => by cases e; rfl
  | x :: xs, r, e => by
    obtain ⟨s1, h1, h2, h3⟩ := h x
    unfold lcG at e
    rw [List.map_cons, lcL, h1]
    cases hp : p x with
    | ok b =>
      rw [hp] at e h2
      simp only [h2.ok rfl]
      cases b with
      | true =>
        simp only at e
        cases hg : gg x with
        | ok y =>
          rw [hg] at e h3
          simp only at e
          simp only [h3.ok rfl]
          cases hr : lcG p gg xs with
          | ok r' => rw [hr] at e; cases e; rw [lcG_o h xs r' hr]; rfl
          | exc q => rw [hr] at e; cases e
          | no => rw [hr] at e; cases e
        | exc q => rw [hg] at e; cases e
        | no => rw [hg] at e; cases e
      | false => simp only at e; simp only [lcG_o h xs r e]
    | exc q => rw [hp] at e; cases e
    | no => rw [hp] at e; cases e
theorem lc_o {vs : List Nat} {fi : Mv.EI} {tgt : Tgt} {tc : ET} {p : α → Res Bool} {gg : α → Res β} {r : List β} (hi : fi ss = .ok (xs.map enc)) (h : ∀ x, ∃ s1, tgt (enc x) (wipeS ss vs) = some s1 ∧ St' (tc s1) (p x) ∧ Se 0 enc2 (fe s1) (gg x)) (hv : lcR xs p gg = .ok r) : eLc vs fi tgt tc fe ss = .ok (1, eL enc2 r) := by
  unfold lcR at hv
  split at hv
  · rename_i q
    unfold eLc
    rw [hi]
    simp only [List.length_map, q, if_true]
    rw [lcG_o h xs r hv]
  · cases hv
theorem lcGN_o {tgt : Tgt} {tc : ET} {sw : En} {p : α → Res Bool} {gg : α → Res β} (h : ∀ x, ∃ s1, tgt (enc x) sw = some s1 ∧ St' (tc s1) (p x) ∧ Se n enc2 (fe s1) (gg x)) : ∀ (xs : List α) (r : List β), lcG p gg xs = .ok r → lcLN n tgt tc fe sw (xs.map enc) = .ok (r.map enc2)
  | [], r, e => by cases e; rfl
  | x :: xs, r, e => by
    obtain ⟨s1, h1, h2, h3⟩ := h x
    unfold lcG at e
    rw [List.map_cons, lcLN, h1]
    cases hp : p x with
    | ok b =>
      rw [hp] at e h2
      simp only [h2.ok rfl]
      cases b with
      | true =>
        simp only at e
        cases hg : gg x with
        | ok y =>
          rw [hg] at e h3
          simp only at e
          simp only [h3.ok rfl, if_true]
          cases hr : lcG p gg xs with
          | ok r' => rw [hr] at e; cases e; rw [lcGN_o h xs r' hr]; rfl
          | exc q => rw [hr] at e; cases e
          | no => rw [hr] at e; cases e
        | exc q => rw [hg] at e; cases e
        | no => rw [hg] at e; cases e
      | false => simp only at e; simp only [lcGN_o h xs r e]
    | exc q => rw [hp] at e; cases e
    | no => rw [hp] at e; cases e
theorem lcN_o {vs : List Nat} {fi : Mv.EI} {tgt : Tgt} {tc : ET} {p : α → Res Bool} {gg : α → Res β} {r : List β} (hi : fi ss = .ok (xs.map enc)) (h : ∀ x, ∃ s1, tgt (enc x) (wipeS ss vs) = some s1 ∧ St' (tc s1) (p x) ∧ Se n enc2 (fe s1) (gg x)) (hv : lcR xs p gg = .ok r) : eLcN n vs fi tgt tc fe ss = .ok (n + 1, eL enc2 r) := by
  unfold lcR at hv
  split at hv
  · rename_i q
    unfold eLcN
    rw [hi]
    simp only [List.length_map, q, if_true]
    rw [lcGN_o h xs r hv]
  · cases hv
/-! statements that change a list -/
theorem app_s {e : EB} (s' : En) (hf : e ss = .ok (n, enc v)) (hs : ss[i]? = some (.v (n + 1) (eL enc xs))) (hv : appR xs v = .ok ys) (he : ss.set i (.v (n + 1) (eL enc ys)) = s') : sApp i e ss = .nx s' := by
  unfold appR at hv
  split at hv
  · rename_i q; cases hv
    unfold sApp; rw [hs]; simp only [hf]
    rw [if_pos ⟨True.intro, by simpa using q⟩, ← he]
    simp only [eL, List.map_append, List.map_cons, List.map_nil]
  · cases hv
/-! calls -/
theorem fn_o {M : FM} (ha : ga ss = .ok ds) (hm : M ds = .ok (n, d)) : eFn M ga ss = .ok (n, d) := ev_fn ha hm
theorem fnF_o {M : FM} (ha : ga ss = .ok ds) (hm : M ds = .ok (n, d)) (hf : flat d = true := by rfl) : eFnF M ga ss = .ok (0, d) := fnF_ok ha hm hf
/-! what is raised goes through -/
/-! exceptions at hand -/
end
/-! ### defs -/
section
variable {α β γ σ σ' κ κ' ρ : Type} {E : σ → En → Prop} {EK : κ → En → Prop} {EX : En → Prop} {RT : ρ → SO → Prop}
theorem fn_Sr {E : Unit → En → Prop} {EK : Empty → En → Prop} {np nn n : Nat} {F : SM} {ds : List D} {enc : ρ → D} {y : O Unit Empty ρ} (env : En) (hl : ds.length = np) (he : ds.map (Sl.v 0) ++ List.replicate (nn - np) .un = env) (h : Sm E EK EX (fun r x => x = SO.rt n (enc r)) (F env) y) : Sr n enc (fnM np nn F ds) (oRes y) := by
  cases y with
  | rt r => exact ⟨fun e => by cases e; exact fn_rt hl he h.out, fun e => by cases e⟩
  | exc e => obtain ⟨s, e1, _⟩ := h; exact ⟨(fun e => by cases e), fun e => by cases e; exact fn_ex hl he e1⟩
  | nx s => exact ⟨(fun e => by cases e), fun e => by cases e⟩
  | bk s => exact s.elim
  | ct s => exact s.elim
  | no => exact ⟨(fun e => by cases e), fun e => by cases e⟩
/-! ### try -/
end
end Ty
namespace Ty
open PySem L2 Mv
section
variable {α β γ σ σ' κ κ' ρ : Type} {enc : α → D} {enc2 : β → D} {f f1 f2 f3 g fi fe : EB} {ga g1 : EA} {ss s' : En} {n m k i j : Nat} {xs ys : List α} {a b c z : Int} {v : α} {d : D} {ds : List D}
def getR (o : Option α) : Res α := match o with
  | some a => .ok a
  | none => .no
theorem get_o {o : Option α} (h : f ss = .ok (n, eN enc o)) (hv : getR o = .ok v) : f ss = .ok (n, enc v) := by
  cases o with
  | none => cases hv
  | some a => cases hv; exact h
/-! a search through a list that a slot owns -/
end
end Ty
namespace Ty
open PySem L2 Mv
end Ty
/-! Typed readings, continued: answers that are a list or None, tuples that may be the written part's, loops over lists that a slot owns. -/
namespace Ty
open PySem L2 Mv
section
variable {α β γ σ σ' κ κ' ρ : Type} {enc : α → D} {enc2 : β → D} {f f1 f2 f3 g fi fe : EB} {ga gb : EA} {ss s' : En} {n m k i j : Nat} {xs ys : List α} {a b c z : Int} {v : α} {d : D} {ds es : List D}
/-! a list or None, owned if it is a list -/
/-! keywords -/
/-! min, max, sum -/
def mostR (ns : List Int) : Res Int := match ns with
  | [] => .no
  | n :: r => .ok (mostI (n :: r))
theorem max1_o {is : List Int} (h : f ss = .ok (n, eL D.int is)) (hv : mostR is = .ok z) : eCall gMax1 (aCons f aNil) ss = .ok (0, .int z) := by
  cases is with
  | nil => cases hv
  | cons x r => cases hv; exact call_ok (aOne h) (by unfold gMax1; simp only [intsOf_ints])
end
end Ty
/-! Typed readings, continued: tuple(range(n)), xs[::-1], enumerate, sorted(set(xs)), truth. -/
namespace Ty
open PySem L2 Mv
section
variable {α β : Type} {enc : α → D} {f : EB} {ga : EA} {ss : En} {n m : Nat} {xs : List α} {z : Int}
def distR (ns : List Int) : Res (List Int) := if (distI ns).length < 64 ∧ ns.length ≤ 4000 then .ok (distI ns) else .no
theorem dist_o {is r : List Int} (h : f ss = .ok (n, eL D.int is)) (hv : distR is = .ok r) (hn : n ≤ 1 := by decide) : eDist f ss = .ok (1, eL D.int r) := by
  unfold distR at hv
  split at hv
  · rename_i q
    cases hv
    unfold eDist
    simp only [h, hn, if_true, intsOf_ints, q, and_self]
  · cases hv
theorem distR_few {ns : List Int} (h : ns.length < 64) : distR ns = .ok (distI ns) := by
  have := distI_len ns
  unfold distR
  rw [if_pos ⟨by omega, by omega⟩]
end
end Ty
/-! Typed readings, continued: insert. -/
namespace Ty
open PySem L2 Mv
end Ty
/-! Typed readings, continued: the place of a number in a tuple. -/
namespace Ty
open PySem L2 Mv
end Ty
/-! Typed readings, continued: answers that are a pair with a list of its own. -/
namespace Ty
open PySem L2 Mv
end Ty
namespace Ty
open PySem L2 Mv
end Ty
/-! Typed readings, continued: remove, pop, xs[k] += e, reversed, texts in a list, lists that pass from name to name. -/
namespace Ty
open PySem L2 Mv
/-! a list of objects that gets a number put in, and is not read again -/
end Ty
/-! Typed readings, continued: min with a default, two loops in a comprehension, an answer whose list stands last. -/
namespace Ty
open PySem L2 Mv
end Ty
/-! Typed readings, continued: items lent in a loop, displays of owned things, an alias. -/
namespace Ty
open PySem L2 Mv
end Ty
/-! Typed readings: defs that are lent things, objects that change. -/
namespace Ty
open PySem L2 Mv
open Classical
section
variable {α β γ σ σ' κ κ' ρ : Type} {E : σ → En → Prop} {EK : κ → En → Prop} {EX : En → Prop} {RT : ρ → SO → Prop} {enc : α → D} {f f1 f2 fi : EB} {g g1 : Mv.EX} {p : GP} {G F A B : SM} {ss s1 s' : En} {n m k l i j : Nat} {xs ys : List α} {d d' : D} {ds ds' : List D} {y : O σ κ ρ}
/-- the references of what a def is handed -/
abbrev wsL (k : Nat) (w : Nat → V) : List V := (List.range k).map w
theorem wsL_of : ∀ {k : Nat} {ws : List V}, ws.length = k → ∃ w, ws = wsL k w := fun {k ws} h => ⟨fun j => ws.getD j .non, by
  refine List.ext_getElem (by simp [h]) fun n h1 h2 => ?_
  simp [List.getD_eq_getElem?_getD, List.getElem?_eq_getElem h1]⟩
/-- an answer, and what the lent things are then; an exception leaves them as they were -/
structure SrV (n : Nat) (enc : α → D) (encB : β → List D) (bx : List D) (x : OV) (y : Res (β × α)) : Prop where
  ok : ∀ {r : β × α}, y = .ok r → x = .ok n (enc r.2) (encB r.1)
  ex : ∀ {e : Exo}, y = .exc e → x = .exc e bx
/-- of a def that tells nothing -/
def oResV (y : O β Empty Empty) : Res (β × Unit) := match y with
  | .nx b => .ok (b, ())
  | .exc e => .exc e
  | _ => .no
theorem fn_SrV {E : Unit → En → Prop} {EK : Empty → En → Prop} {ms : Md} {nn n : Nat} {F : SM} {ds : List D} {enc : α → D} {encB : β → List D} {bx : List D} {y : O Unit Empty (β × α)} (env : (Nat → V) → En) (hl : ds.length = ms.length)
    (he : ∀ w, envV ms (wsL ms.length w) ds ++ List.replicate (nn - ms.length) .un = env w)
    (h : ∀ w, Sm E EK (fun ss => GetV ms (wsL ms.length w) bx ss) (fun (r : β × α) x => ∃ ss, x = SO.rn n (enc r.2) ss ∧ GetV ms (wsL ms.length w) (encB r.1) ss) (F (env w)) y) : SrV n enc encB bx (fnV ms nn F ds) (oRes y) := by
  cases y with
  | rt r =>
    refine ⟨fun e => ?_, fun e => by cases e⟩
    cases e
    refine fnV_ok (r := (n, enc r.2, encB r.1)) hl fun ws hw => ?_
    obtain ⟨w, rfl⟩ := wsL_of hw
    rw [he w]
    obtain ⟨ss, e1, e2⟩ := (h w).out
    exact ⟨ss, .inl e1, e2⟩
  | exc e0 =>
    refine ⟨(fun e => by cases e), fun e => ?_⟩
    cases e
    refine fnV_exc (r := (e0, bx)) hl fun ws hw => ?_
    obtain ⟨w, rfl⟩ := wsL_of hw
    rw [he w]
    obtain ⟨ss, e1, e2⟩ := (h w).out
    exact ⟨ss, e1, e2⟩
  | nx s => exact ⟨(fun e => by cases e), fun e => by cases e⟩
  | bk s => exact s.elim
  | ct s => exact s.elim
  | no => exact ⟨(fun e => by cases e), fun e => by cases e⟩
theorem fn_SrVN {EK : Empty → En → Prop} {ms : Md} {nn : Nat} {F : SM} {ds : List D} {encB : β → List D} {bx : List D} {y : O β Empty Empty} (env : (Nat → V) → En) (hl : ds.length = ms.length)
    (he : ∀ w, envV ms (wsL ms.length w) ds ++ List.replicate (nn - ms.length) .un = env w)
    (h : ∀ w, Sm (fun b ss => GetV ms (wsL ms.length w) (encB b) ss) EK (fun ss => GetV ms (wsL ms.length w) bx ss) (fun _ _ => False) (F (env w)) y) : SrV 0 eU encB bx (fnV ms nn F ds) (oResV y) := by
  cases y with
  | nx b =>
    refine ⟨fun e => ?_, fun e => by cases e⟩
    cases e
    refine fnV_ok (r := (0, .non, encB b)) hl fun ws hw => ?_
    obtain ⟨w, rfl⟩ := wsL_of hw
    rw [he w]
    obtain ⟨ss, e1, e2⟩ := (h w).out
    exact ⟨ss, .inr (.inr ⟨rfl, rfl, e1⟩), e2⟩
  | exc e0 =>
    refine ⟨(fun e => by cases e), fun e => ?_⟩
    cases e
    refine fnV_exc (r := (e0, bx)) hl fun ws hw => ?_
    obtain ⟨w, rfl⟩ := wsL_of hw
    rw [he w]
    obtain ⟨ss, e1, e2⟩ := (h w).out
    exact ⟨ss, e1, e2⟩
  | rt r => exact r.elim
  | bk s => exact s.elim
  | ct s => exact s.elim
  | no => exact ⟨(fun e => by cases e), fun e => by cases e⟩
theorem rets_rn {n : Nat} {enc : α → D} {P : β → En → Prop} : Rets (fun (r : β × α) x => ∃ ss, x = SO.rn n (enc r.2) ss ∧ P r.1 ss) := ⟨fun r x h => .inr (.inr (let ⟨ss, e, _⟩ := h; ⟨_, _, ss, e⟩))⟩
/-! calls that lend -/
theorem lend_o {ms : Md} {M : FV} {ga : GA} {as : List AG} (s' : En) (ha : ga ss = .ok as) (nd : (idxs as).Nodup) (hd : dsA ss ms as = some ds) (hm : M ds = .ok n d ds') (hp : putA ss as ds' ss = some s') : eLend ms M ga ss = .ok n d s' := by
  unfold eLend
  rw [ha]
  simp only
  rw [if_pos nd, hd]
  simp only
  rw [hm]
  unfold finA
  simp only [hp]
theorem make_o {ms : Md} {M : FV} {ga : GA} {as : List AG} {C : Addr} {m0 : Nat} (s' : En) (ha : ga ss = .ok as) (nd : (idxs as).Nodup) (hd : dsA ss ms as = some ds) (hm : M (.ob C [] :: ds) = .ok 0 .non (d :: ds')) (hp : putA ss as ds' ss = some s') : eMake C m0 ms M ga ss = .ok (m0 + 1) d s' := by
  unfold eMake
  rw [ha]
  simp only
  rw [if_pos nd, hd]
  simp only
  rw [hm]
  unfold finMk
  simp only [hp]
theorem meth_o {C : Addr} {mn : Str} {ms : Md} {M : FV} {ga : GA} {o : OX} (hk : okM C mn i p ss = true) (h : eLend ms M (gLn i p ga) ss = o) : eMeth C mn i p ms M ga ss = o := by
  unfold eMeth
  rw [if_pos hk]
  exact h
theorem gNil_o : Mv.gNil ss = .ok [] := rfl
theorem gFz_o {ga : GA} {as : List AG} (h : f ss = .ok (0, d)) (ha : ga ss = .ok as) : gFz f ga ss = .ok (.fz d :: as) := by
  unfold gFz
  rw [h]
  simp only [ha, true_or, if_true]
theorem gLn_o {ga : GA} {as : List AG} {π : List PS1} (h : p ss = .ok π) (ha : ga ss = .ok as) : gLn i p ga ss = .ok (.ln i π :: as) := by
  unfold gLn
  rw [h]
  simp only [ha]
theorem gDef_o {ga : GA} {as : List AG} {dd : List D} (ha : ga ss = .ok as) : gDef dd ga ss = .ok (as ++ dd.map .fz) := by
  unfold gDef
  rw [ha]
theorem gApp_o {ga gb : GA} {as bs : List AG} (ha : ga ss = .ok as) (hb : gb ss = .ok bs) (hn : as.length = n) (hj : bs.length = j) : gApp n j ga gb ss = .ok (as ++ bs) := by
  unfold gApp
  rw [ha]
  simp only [hb]
  rw [if_pos ⟨hn, hj⟩]
theorem gVar_o {r : Nat × D} (h : atP i ss [] = some r) : gVar i ss = .ok [] := by
  unfold gVar
  rw [h]
theorem gIx_o {π : List PS1} {z : Int} {q : Nat} {n1 : Nat} (h : p ss = .ok π) (hb : f ss = .ok (n1, .int z)) (hk : stI (atP i ss π) z = some q) : gIx i p f ss = .ok (π ++ [.ix q]) := by
  unfold gIx
  rw [h]
  simp only [hb, hk]
theorem putN {acc : En} : putA ss [] ds acc = some acc := rfl
theorem putF {as : List AG} {acc : En} (h : putA ss as ds acc = some s') : putA ss (.fz d :: as) (d' :: ds) acc = some s' := h
theorem putL {as : List AG} {π : List PS1} {acc : En} {x : D} {r : Nat} (ha : atP i ss π = some (r, x)) (hL : isL d = isL x) (h : putA ss as ds (acc.set i (slA i ss π d)) = some s') : putA ss (.ln i π :: as) (d :: ds) acc = some s' := by
  unfold putA
  rw [ha]
  simp only
  rw [if_pos hL]
  exact h
def ins0R (xs : List α) (v : α) : Res (List α) := if xs.length < 10000000 then .ok (v :: xs) else .no
/-- one item of a list of owned lists -/
theorem at_ix {xss : List (List α)} {q : Nat} {l : List α} (hs : ss[i]? = some (.v (m + 2) (eL (eL enc) xss))) (hq : xss[q]? = some l) : atP i ss [.ix q] = some (m + 1, eL enc l) := by
  unfold atP
  rw [hs]
  simp only [slGet]
  rw [if_pos (by show 1 ≤ m + 2; omega)]
  have e : subP (eL (eL enc) xss) [.ix q] = some (eL enc l) := by
    show (match subS (.lst (xss.map (eL enc))) (.ix q) with
      | some d1 => subP d1 []
      | none => none) = _
    have e1 : subS (.lst (xss.map (eL enc))) (.ix q) = some (eL enc l) := by
      show (xss.map (eL enc))[q]? = _
      rw [List.getElem?_map, hq]
      rfl
    rw [e1]
    rfl
  rw [e]
  rfl
theorem pl_ix {xss : List (List α)} {q : Nat} {l l2 : List α} (hs : ss[i]? = some (.v (m + 2) (eL (eL enc) xss))) (hq : xss[q]? = some l) : plA i ss [.ix q] (eL enc l2) = ss.set i (.v (m + 2) (eL (eL enc) (xss.set q l2))) := by
  unfold plA
  rw [hs]
  simp only [slGet, slPut]
  have e1 : subS (.lst (xss.map (eL enc))) (.ix q) = some (eL enc l) := by
    show (xss.map (eL enc))[q]? = _
    rw [List.getElem?_map, hq]
    rfl
  have e : putP (eL (eL enc) xss) [.ix q] (eL enc l2) = eL (eL enc) (xss.set q l2) := by
    show (match subS (.lst (xss.map (eL enc))) (.ix q) with
      | some d1 => putS (.lst (xss.map (eL enc))) (.ix q) (putP d1 [] (eL enc l2))
      | none => (.lst (xss.map (eL enc)))) = _
    rw [e1]
    show D.lst ((xss.map (eL enc)).set q (eL enc l2)) = D.lst ((xss.set q l2).map (eL enc))
    rw [List.map_set]
  rw [e]
/-- the place that xs[z] names, and what is there -/
def atR (xs : List α) (z : Int) : Res (Nat × α) := match ixN xs.length z with
  | some q => (match xs[q]? with
    | some v => .ok (q, v)
    | none => .no)
  | none => .no
theorem atR_get {z : Int} {r : Nat × α} (h : atR xs z = .ok r) : ixN xs.length z = some r.1 ∧ xs[r.1]? = some r.2 := by
  unfold atR at h
  split at h
  · rename_i q hq
    split at h
    · rename_i v hv
      cases h
      exact ⟨hq, hv⟩
    · cases h
  · cases h
theorem path_ix {xss : List (List α)} {z : Int} {r : Nat × List α} {n1 : Nat} (hs : ss[i]? = some (.v (m + 2) (eL (eL enc) xss))) (hb : f ss = .ok (n1, .int z)) (hv : atR xss z = .ok r) : gIx i (gVar i) f ss = .ok [.ix r.1] := by
  obtain ⟨h1, h2⟩ := atR_get hv
  have e0 : atP i ss [] = some (m + 2, eL (eL enc) xss) := by
    unfold atP
    rw [hs]
    simp only [slGet]
    rw [if_pos (by show 0 ≤ m + 2; omega)]
    rfl
  have e1 : gVar i ss = .ok [] := gVar_o e0
  refine (gIx_o (q := r.1) e1 hb ?_).trans rfl
  rw [e0]
  show ixN (xss.map (eL enc)).length z = some r.1
  rw [List.length_map]
  exact h1
theorem insIx_s {xss : List (List α)} {fb : EB} {z : Int} {r : Nat × List α} {v : α} {n1 : Nat} {ys : List α} (s' : En) (hs : ss[i]? = some (.v (m + 2) (eL (eL enc) xss))) (hb : fb ss = .ok (n1, .int z)) (hf : f ss = .ok (l, enc v)) (hv : atR xss z = .ok r) (hu : up l m (enc v) = true) (hw : ins0R r.2 v = .ok ys)
    (he : ss.set i (.v (m + 2) (eL (eL enc) (xss.set r.1 ys))) = s') : sInsP i (gIx i (gVar i) fb) f ss = .nx s' := by
  obtain ⟨h1, h2⟩ := atR_get hv
  unfold ins0R at hw
  split at hw
  · rename_i hl
    cases hw
    unfold sInsP
    simp only [path_ix hs hb hv, at_ix hs h2, hf]
    rw [if_pos ⟨hu, by simpa using hl⟩, ← he, ← pl_ix (l := r.2) hs h2]
    rfl
  · cases hw
/-! statements -/
theorem setX_s (s' : En) (h : g ss = .ok n d s1) (he : s1.set k (.v n d) = s') : sSetX k g ss = .nx s' := by unfold sSetX; rw [h]; simp only [he]
theorem sm_retX {r : β × α} {P : β → En → Prop} {enc : α → D} (h : g ss = .ok n (enc r.2) s1) (hp : P r.1 s1) : Sm E EK EX (fun (r : β × α) x => ∃ ss, x = SO.rn n (enc r.2) ss ∧ P r.1 ss) (sSeq (sRetX g) G ss) (.rt r) := by
  refine ⟨⟨s1, ?_, hp⟩⟩
  unfold sSeq sRetX
  rw [h]
theorem sm_retNV {r : β × α} {P : β → En → Prop} {enc : α → D} (h : ss[i]? = some (.v n (enc r.2))) (hp : P r.1 (ss.set i .un)) : Sm E EK EX (fun (r : β × α) x => ∃ ss, x = SO.rn n (enc r.2) ss ∧ P r.1 ss) (sSeq (sRetNV i) G ss) (.rt r) := by
  refine ⟨⟨_, ?_, hp⟩⟩
  unfold sSeq sRetNV
  rw [h]
theorem eM_o (h : f ss = .ok (n, d)) : eM f ss = .ok n d ss := by unfold eM; rw [h]
theorem sm_ifX {b : Bool} {y1 y2 : O σ κ ρ} (ht : g ss = .ok 0 (.bl b) s1) (h1 : b = true → Sm E EK EX RT (sSeq A G s1) y1) (h2 : b = false → Sm E EK EX RT (sSeq B G s1) y2) : Sm E EK EX RT (sSeq (sIfX g A B) G ss) (if b = true then y1 else y2) := by
  cases b with
  | true =>
    have e : sSeq (sIfX g A B) G ss = sSeq A G s1 := by unfold sSeq sIfX; rw [ht]; rfl
    rw [e]; exact h1 rfl
  | false =>
    have e : sSeq (sIfX g A B) G ss = sSeq B G s1 := by unfold sSeq sIfX; rw [ht]; rfl
    rw [e]; exact h2 rfl
theorem okM_o {C : Addr} {mn : Str} {π : List PS1} {fs : List (Str × D)} (h : p ss = .ok π) (ha : atP i ss π = some (m + 1, .ob C fs)) (hl : fs.lookup mn = none) : okM C mn i p ss = true := by
  unfold okM
  rw [h]
  simp only [ha, hl, decide_true, Option.isNone_none, Bool.and_self]
theorem up_same (l : Nat) (d : D) : up l l d = true := by
  cases l with
  | zero => unfold up; rfl
  | succ l => unfold up; simp
/-! what stands at a path -/
theorem setFP_s {C : Addr} {x : Str} {π : List PS1} {fs : List (Str × D)} (s' : En) (hf : f ss = .ok (l, d)) (hg : p ss = .ok π) (ha : atP i ss π = some (m + 1, .ob C fs)) (hl : fs.length < 1000) (hL : (isL d = true ∧ up l m d = true) ∨ (isL d = false ∧ l = 0)) (he : plA i ss π (.ob C (putD x d fs)) = s') : sSetFP i C x p f ss = .nx s' := by
  unfold sSetFP
  rw [hf]
  simp only [hg, ha]
  rw [if_pos ⟨True.intro, hl, hL⟩, he]
/-! objects that are borrowed -/
theorem fldB_o {C : Addr} {x : Str} {fs : List (Str × D)} (h : f ss = .ok (n, .ob C fs)) (hl : fs.lookup x = some d) : eFldB C x f ss = .ok (if isL d = true then n - 1 else 0, d) := by
  unfold eFldB
  rw [h]
  simp only [if_true, hl]
theorem fldL_o {C : Addr} {x : Str} {fs : List (Str × D)} (h : f ss = .ok (n, .ob C fs)) (hl : fs.lookup x = some d) (hd : isL d = true) : eFldB C x f ss = .ok (n - 1, d) := by
  rw [fldB_o h hl, if_pos hd]
theorem fld0_o {C : Addr} {x : Str} {fs : List (Str × D)} (h : f ss = .ok (n, .ob C fs)) (hl : fs.lookup x = some d) (hd : isL d = false) : eFldB C x f ss = .ok (0, d) := by
  rw [fldB_o h hl, if_neg (by rw [hd]; exact Bool.false_ne_true)]
theorem cnt_o {zs : List Int} {c : Int} (h1 : f1 ss = .ok (n, eL D.int zs)) (hn : n ≤ 1) (h2 : f2 ss = .ok (m, .int c)) : eCnt f1 f2 ss = .ok (0, .int (zs.count c : Nat)) := by
  unfold eCnt
  rw [h1]
  simp only
  rw [if_pos hn, h2]
  simp only [intsOf_ints]
/-! a loop over a list that a slot owns -/
end
end Ty
/-! Typed readings: dicts with int keys; things of several classes; parts of a list that are lent. -/
namespace Ty
open PySem L2 Mv
open Classical
section
variable {α β β' γ σ σ' κ κ' ρ : Type} {enc : α → D} {f f1 f2 fi fk : EB} {g g1 g2 : Mv.EX} {p : GP} {ss s1 s2 : En} {n m k l i j q : Nat} {xs ys : List α} {d d' : D} {ds ds' : List D} {kvs kvs2 : List (Int × α)} {z : Int}
def eDi (enc : α → D) (l : List (Int × α)) : D := .dk (l.map fun p => (Sum.inl p.1, enc p.2))
def dgI : List (Int × α) → Int → Option α
  | [], _ => none
  | p :: r, k => if p.1 = k then some p.2 else dgI r k
def dpI (l : List (Int × α)) (k : Int) (v : α) : List (Int × α) := if (dgI l k).isSome = true then l.map (fun p => if p.1 = k then (p.1, v) else p) else l ++ [(k, v)]
theorem dget_e (z : Int) : ∀ l : List (Int × α), dget (l.map fun p => ((Sum.inl p.1 : Key), enc p.2)) (.inl z) = (dgI l z).map enc
  | [] => rfl
  | p :: r => by
    rw [List.map_cons, dget, dgI]
    by_cases h : p.1 = z
    · rw [if_pos (by rw [h]), if_pos h]
      rfl
    · rw [if_neg (fun e => h (Sum.inl.inj e)), if_neg h]
      exact dget_e z r
theorem dput_e (z : Int) (v : α) (l : List (Int × α)) : dput (l.map fun p => ((Sum.inl p.1 : Key), enc p.2)) (.inl z) (enc v) = (dpI l z v).map fun p => ((Sum.inl p.1 : Key), enc p.2) := by
  unfold dput dpI
  rw [dget_e, Option.isSome_map]
  by_cases h : (dgI l z).isSome = true
  · rw [if_pos h, if_pos h, List.map_map, List.map_map]
    refine (List.map_congr_left fun p _ => ?_)
    show (if (Sum.inl p.1 : Key) = Sum.inl z then _ else _) = _
    by_cases e : p.1 = z
    · simp [e]
    · simp [e]
  · rw [if_neg h, if_neg h, List.map_append]
    rfl
def dsetR (l : List (Int × α)) (k : Int) (v : α) : Res (List (Int × α)) := if l.length < 10000000 then .ok (dpI l k v) else .no
def dhas (l : List (Int × α)) (k : Int) : Bool := (dgI l k).isSome
theorem dnew_o : eDNew ss = .ok (1, eDi enc []) := rfl
theorem dnin_o (h1 : f1 ss = .ok (m, .int z)) (h2 : f2 ss = .ok (n, eDi enc kvs)) (hn : n ≤ 1) : eDIn false f1 f2 ss = .ok (0, .bl (!dhas kvs z)) := by
  unfold eDIn
  rw [h1]
  simp only [kOf, h2, eDi]
  rw [if_pos hn, dget_e, Option.isSome_map]
  unfold dhas
  cases (dgI kvs z).isSome <;> rfl
theorem dset_s {v : α} (s' : En) (hs : ss[i]? = some (.v 1 (eDi enc kvs))) (hf : f ss = .ok (0, enc v)) (hk : fk ss = .ok (m, .int z)) (hv : dsetR kvs z v = .ok kvs2) (he : ss.set i (.v 1 (eDi enc kvs2)) = s') : sDSet i fk f ss = .nx s' := by
  unfold dsetR at hv
  split at hv
  · rename_i hl
    cases hv
    unfold sDSet
    rw [hs]
    simp only [eDi, hf, hk, kOf]
    rw [if_pos (by simpa using hl), dput_e, ← he]
    rfl
  · cases hv
/-! several classes -/
theorem alt_t {t : En → Bool} {o : OX} (h : t ss = true) (k : g1 ss = o) : eAlt t g1 g2 ss = o := by
  unfold eAlt
  rw [if_pos h]
  exact k
theorem alt_f {t : En → Bool} {o : OX} (h : t ss = false) (k : g2 ss = o) : eAlt t g1 g2 ss = o := by
  unfold eAlt
  rw [(if_neg (by rw [h]; exact Bool.false_ne_true))]
  exact k
theorem okM_n {C C' : Addr} {mn : Str} {π : List PS1} {fs : List (Str × D)} (h : p ss = .ok π) (ha : atP i ss π = some (m + 1, .ob C' fs)) (hne : C' ≠ C) : okM C mn i p ss = false := by
  unfold okM
  rw [h]
  simp only [ha, decide_eq_false hne, Bool.false_and]
theorem nd_ne {l : List Addr} (h : l.Nodup) {i j : Nat} {a b : Addr} (hi : l[i]? = some a) (hj : l[j]? = some b) (hij : i ≠ j) : a ≠ b := fun e => by
  subst e
  obtain ⟨h1, e1⟩ := List.getElem?_eq_some_iff.mp hi
  obtain ⟨h2, e2⟩ := List.getElem?_eq_some_iff.mp hj
  rcases Nat.lt_or_gt_of_ne hij with z | z
  · exact List.pairwise_iff_getElem.mp h i j h1 h2 z (e1.trans e2.symm)
  · exact List.pairwise_iff_getElem.mp h j i h2 h1 z (e2.trans e1.symm)
def mapP (c : β → β') (y : Res (β × α)) : Res (β' × α) := match y with
  | .ok v => .ok (c v.1, v.2)
  | .exc e => .exc e
  | .no => .no
theorem srv_map {encB : β → List D} {encB' : β' → List D} {bx : List D} {x : OV} {y : Res (β × α)} (c : β → β') (h : SrV n enc encB bx x y) (he : ∀ b, encB' (c b) = encB b) : SrV n enc encB' bx x (mapP c y) := by
  cases y with
  | ok v =>
    refine ⟨fun e => ?_, fun e => by cases e⟩
    cases e
    rw [h.ok rfl, he]
  | exc e => exact ⟨(fun z => by cases z), fun z => by cases z; exact h.ex rfl⟩
  | no => exact ⟨(fun z => by cases z), fun z => by cases z⟩
/-! displays -/
theorem xs_nil_o : xsGo n [] ss = .ok [] ss := rfl
theorem xs_cons_o {gs : List Mv.EX} (h : g ss = .ok m d s1) (hu : up m n d = true) (hr : xsGo n gs s1 = .ok ds s2) : xsGo n (g :: gs) ss = .ok (d :: ds) s2 := by
  unfold xsGo
  rw [h]
  simp only
  rw [if_pos hu, hr]
theorem lstX_o {gs : List Mv.EX} (h : xsGo n gs ss = .ok ds s1) (hl : ds.length ≤ 10000000) : eLstX n gs ss = .ok (n + 1) (.lst ds) s1 := by
  unfold eLstX
  rw [h]
  simp only
  rw [if_pos hl]
theorem cmpX_ne {a c : Int} (h : g ss = .ok 0 (.int a) s1) (h2 : f s1 = .ok (m, .int c)) : eCmpX gNe g f ss = .ok 0 (.bl (!decide (a = c))) s1 := by
  unfold eCmpX
  have e : gNe (.int a) (.int c) = some (.bl (!decide (a = c))) := by
    unfold gNe
    rw [gEq_inj ple_int.inj (fun a => ple_int.pl a 60) a c (ple_int.cp a c)]
  rw [h]
  simp only [h2, e]
/-! parts that are lent -/
theorem at_ixG {x : α} (hs : ss[i]? = some (.v (m + 2) (eL enc xs))) (hq : xs[q]? = some x) : atP i ss [.ix q] = some (m + 1, enc x) := by
  unfold atP
  rw [hs]
  simp only [slGet]
  rw [if_pos (by show 1 ≤ m + 2; omega)]
  have e : subP (eL enc xs) [.ix q] = some (enc x) := by
    show (match subS (.lst (xs.map enc)) (.ix q) with
      | some d1 => subP d1 []
      | none => none) = _
    have e1 : subS (.lst (xs.map enc)) (.ix q) = some (enc x) := by
      show (xs.map enc)[q]? = _
      rw [List.getElem?_map, hq]
      rfl
    rw [e1]
    rfl
  rw [e]
  rfl
theorem sl_ixG {x y : α} (hs : ss[i]? = some (.v (m + 2) (eL enc xs))) (hq : xs[q]? = some x) : slA i ss [.ix q] (enc y) = .v (m + 2) (eL enc (xs.set q y)) := by
  unfold slA
  rw [hs]
  simp only [slGet, slPut]
  have e1 : subS (.lst (xs.map enc)) (.ix q) = some (enc x) := by
    show (xs.map enc)[q]? = _
    rw [List.getElem?_map, hq]
    rfl
  have e : putP (eL enc xs) [.ix q] (enc y) = eL enc (xs.set q y) := by
    show (match subS (.lst (xs.map enc)) (.ix q) with
      | some d1 => putS (.lst (xs.map enc)) (.ix q) (putP d1 [] (enc y))
      | none => (.lst (xs.map enc))) = _
    rw [e1]
    show D.lst ((xs.map enc).set q (enc y)) = D.lst ((xs.set q y).map enc)
    rw [List.map_set]
  rw [e]
theorem path_ixG {r : Nat × α} {n1 : Nat} (hs : ss[i]? = some (.v (m + 2) (eL enc xs))) (hb : f ss = .ok (n1, .int z)) (hv : atR xs z = .ok r) : gIx i (gVar i) f ss = .ok [.ix r.1] := by
  obtain ⟨h1, h2⟩ := atR_get hv
  have e0 : atP i ss [] = some (m + 2, eL enc xs) := by
    unfold atP
    rw [hs]
    simp only [slGet]
    rw [if_pos (by show 0 ≤ m + 2; omega)]
    rfl
  have e1 : gVar i ss = .ok [] := gVar_o e0
  refine (gIx_o (q := r.1) e1 hb ?_).trans rfl
  rw [e0]
  show ixN (xs.map enc).length z = some r.1
  rw [List.length_map]
  exact h1
theorem dsA_nil : dsA ss [] [] = some [] := rfl
theorem dsA_fz {ms : Md} {as : List AG} (h : dsA ss ms as = some ds) : dsA ss (none :: ms) (.fz d :: as) = some (d :: ds) := by
  unfold dsA
  rw [h]
  rfl
theorem dsA_ln {ms : Md} {as : List AG} {π : List PS1} {x : D} (ha : atP i ss π = some (k + 1, x)) (h : dsA ss ms as = some ds) : dsA ss (some k :: ms) (.ln i π :: as) = some (x :: ds) := by
  unfold dsA
  rw [ha]
  simp only
  rw [if_pos True.intro, h]
  rfl
theorem putIx {x y : α} {as : List AG} {acc s' : En} (hs : ss[i]? = some (.v (m + 2) (eL enc xs))) (hq : xs[q]? = some x) (hL : isL (enc y) = isL (enc x)) (h : putA ss as ds (acc.set i (.v (m + 2) (eL enc (xs.set q y)))) = some s') : putA ss (.ln i [.ix q] :: as) (enc y :: ds) acc = some s' :=
  putL (at_ixG hs hq) hL (by rw [sl_ixG hs hq]; exact h)
theorem putIx0 {x : α} {as : List AG} {acc s' : En} (hs : ss[i]? = some (.v (m + 2) (eL enc xs))) (hq : xs[q]? = some x) (h : putA ss as ds (acc.set i (.v (m + 2) (eL enc xs))) = some s') : putA ss (.ln i [.ix q] :: as) (enc x :: ds) acc = some s' :=
  putIx hs hq rfl (by
    obtain ⟨h1, e1⟩ := List.getElem?_eq_some_iff.mp hq
    rw [show xs.set q x = xs by rw [← e1]; exact List.set_getElem_self h1]
    exact h)
end
end Ty
namespace Ty
open PySem L2 Mv
section
variable {α β γ σ σ' κ κ' ρ : Type}
/-- how a block ends -/
inductive Out (N : σ → Prop) (B C : κ → Prop) (R : ρ → Prop) (X : Exo → Prop) : O σ κ ρ → Prop where
  | nx {s} : N s → Out N B C R X (.nx s)
  | bk {s} : B s → Out N B C R X (.bk s)
  | ct {s} : C s → Out N B C R X (.ct s)
  | rt {r} : R r → Out N B C R X (.rt r)
  | exc {e} : X e → Out N B C R X (.exc e)
def RO (P : α → Prop) (r : Res α) : Prop := ∃ v, r = .ok v ∧ P v
variable {N N' : σ → Prop} {B B' C C' : κ → Prop} {R R' : ρ → Prop} {X X' : Exo → Prop} {P P' : α → Prop}
theorem Out.mono {x : O σ κ ρ} (h : Out N B C R X x) (hN : ∀ s, N s → N' s) (hB : ∀ s, B s → B' s) (hC : ∀ s, C s → C' s) (hR : ∀ s, R s → R' s) (hX : ∀ s, X s → X' s) : Out N' B' C' R' X' x := by
  cases h with
  | nx h => exact .nx (hN _ h)
  | bk h => exact .bk (hB _ h)
  | ct h => exact .ct (hC _ h)
  | rt h => exact .rt (hR _ h)
  | exc h => exact .exc (hX _ h)
theorem Out.w {x : O σ κ ρ} (h : Out N B C R X x) (hN : ∀ s, N s → N' s) : Out N' B C R X x := h.mono hN (fun _ h => h) (fun _ h => h) (fun _ h => h) (fun _ h => h)
theorem RO.w {r : Res α} (h : RO P r) (k : ∀ v, P v → P' v) : RO P' r := let ⟨v, e, p⟩ := h; ⟨v, e, k v p⟩
theorem RO.of_eq {r : Res α} {v : α} (h : RO P r) (e : r = .ok v) : P v := by obtain ⟨w, e', p⟩ := h; rw [e] at e'; cases e'; exact p
/-- equations -/
theorem oN_ok {r : Res α} {k : α → O σ κ ρ} {v : α} (e : r = .ok v) : oN r k = k v := by rw [e]; rfl
theorem bN_ok {r : Res α} {k : α → Res β} {v : α} (e : r = .ok v) : bN r k = k v := by rw [e]; rfl
/-- rules -/
theorem out_N {r : Res α} {k : α → O σ κ ρ} (h : RO P r) (hk : ∀ v, r = .ok v → P v → Out N B C R X (k v)) : Out N B C R X (oN r k) := by
  obtain ⟨v, e, p⟩ := h
  rw [oN_ok e]; exact hk v e p
theorem out_Ne {r : Res α} {k : α → O σ κ ρ} {v : α} (e : r = .ok v) (hk : Out N B C R X (k v)) : Out N B C R X (oN r k) := by rw [oN_ok e]; exact hk
theorem out_lt {a : α} {k : α → O σ κ ρ} (h : Out N B C R X (k a)) : Out N B C R X (lt a k) := h
theorem out_B {x : O σ' κ ρ} {k : σ' → O σ κ ρ} {M : σ' → Prop} (h : Out M B C R X x) (hk : ∀ s, M s → Out N B C R X (k s)) : Out N B C R X (oB x k) := by
  cases h with
  | nx h => exact hk _ h
  | bk h => exact .bk h
  | ct h => exact .ct h
  | rt h => exact .rt h
  | exc h => exact .exc h
theorem out_if {b : Bool} {x y : O σ κ ρ} (h1 : b = true → Out N B C R X x) (h2 : b = false → Out N B C R X y) : Out N B C R X (if b = true then x else y) := by
  cases b with
  | true => exact h1 rfl
  | false => exact h2 rfl
theorem out_ifd {p : Prop} [Decidable p] {x y : O σ κ ρ} (h1 : p → Out N B C R X x) (h2 : ¬ p → Out N B C R X y) : Out N B C R X (if (decide p) = true then x else y) := by
  by_cases h : p
  · rw [if_pos (decide_eq_true h)]; exact h1 h
  · rw [if_neg (by simpa using h)]; exact h2 h
theorem ro_res {x : O Unit Empty ρ} (h : Out (fun _ => False) (fun _ => False) (fun _ => False) R (fun _ => False) x) : RO R (oRes x) := by
  cases h with
  | nx h => exact h.elim
  | bk h => exact h.elim
  | ct h => exact h.elim
  | rt h => exact ⟨_, rfl, h⟩
  | exc h => exact h.elim
/-- a loop by its invariant -/
theorem out_for {body : α → κ' → O κ' κ' ρ} (I : Nat → κ' → Prop) (E : κ' → Prop) : ∀ (xs : List α) (s0 : κ'), I 0 s0 → (∀ s, I xs.length s → E s) → (∀ i x s, xs[i]? = some x → I i s → Out (I (i + 1)) E (I (i + 1)) R X (body x s)) → Out (κ := κ) E B C R X (oFor body xs s0)
  | [], s0, h0, he, _ => .nx (he _ h0)
  | x :: xs, s0, h0, he, hs => by
    have q := hs 0 x s0 rfl h0
    unfold oFor
    generalize body x s0 = y at q
    cases q with
    | nx h => exact out_for (fun i => I (i + 1)) E xs _ h he fun i x s hx hi => hs (i + 1) x s (by simpa using hx) hi
    | ct h => exact out_for (fun i => I (i + 1)) E xs _ h he fun i x s hx hi => hs (i + 1) x s (by simpa using hx) hi
    | bk h => exact .nx h
    | rt h => exact .rt h
    | exc h => exact .exc h
/-- the same, no break -/
theorem out_for' {body : α → κ' → O κ' κ' ρ} (I : Nat → κ' → Prop) (xs : List α) (s0 : κ') (h0 : I 0 s0) (hs : ∀ i x s, xs[i]? = some x → I i s → Out (I (i + 1)) (fun _ => False) (fun _ => False) R X (body x s)) : Out (κ := κ) (I xs.length) B C R X (oFor body xs s0) :=
  out_for I (I xs.length) xs s0 h0 (fun _ h => h) fun i x s hx hi => (hs i x s hx hi).mono (fun _ h => h) (fun _ h => h.elim) (fun _ h => h.elim) (fun _ h => h) (fun _ h => h)
/-- a loop over a range -/
theorem rngI_len (lo : Int) (n : Nat) : (rngI lo n).length = n := by unfold rngI; simp
theorem rngI_get {lo : Int} {n i : Nat} {x : Int} (h : (rngI lo n)[i]? = some x) : i < n ∧ x = lo + (i : Int) := by
  unfold rngI at h
  rw [List.getElem?_map] at h
  by_cases hi : i < n
  · rw [List.getElem?_range hi] at h; cases h; exact ⟨hi, rfl⟩
  · rw [List.getElem?_eq_none (by simp; omega)] at h; cases h
theorem out_rng {body : Int → κ' → O κ' κ' ρ} (I : Nat → κ' → Prop) (lo : Int) (n : Nat) (s0 : κ') (h0 : I 0 s0) (hs : ∀ (i : Nat) s, i < n → I i s → Out (I (i + 1)) (fun _ => False) (fun _ => False) R X (body (lo + (i : Int)) s)) : Out (κ := κ) (I n) B C R X (oFor body (rngI lo n) s0) := by
  have := out_for' (κ := κ) (B := B) (C := C) I (rngI lo n) s0 h0 fun i x s hx hi => by
    obtain ⟨h1, rfl⟩ := rngI_get hx
    exact hs i s h1 hi
  rw [rngI_len] at this
  exact this
theorem smallI_of {a : Int} (h0 : -1000000000 ≤ a) (h1 : a ≤ 1000000000) : smallI a = true := by
  unfold smallI
  rw [Bool.and_eq_true]
  exact ⟨decide_eq_true (by omega), decide_eq_true (by omega)⟩
theorem rngR_ok {n : Int} (h0 : -1000000000 ≤ n) (h1 : n ≤ 1000000000) : rngR n = .ok (rngI 0 n.toNat) := by
  unfold rngR; rw [if_pos (smallI_of h0 h1)]
theorem ixR_get {xs : List α} {i : Nat} {x : α} (h : xs[i]? = some x) : ixR xs (i : Int) = .ok x := by
  unfold ixR; rw [Mv.atI_nat h]
theorem ixR_ok {xs : List α} {z : Int} (h0 : 0 ≤ z) (h1 : z < xs.length) : ∃ x, ixR xs z = .ok x ∧ xs[z.toNat]? = some x := by
  have hl : z.toNat < xs.length := by omega
  refine ⟨xs[z.toNat], ?_, List.getElem?_eq_getElem hl⟩
  have := ixR_get (List.getElem?_eq_getElem hl)
  rw [Int.toNat_of_nonneg h0] at this
  exact this
theorem ro_ix {xs : List α} {z : Int} (h0 : 0 ≤ z) (h1 : z < xs.length) : RO (fun x => xs[z.toNat]? = some x) (ixR xs z) := ixR_ok h0 h1
theorem ro_ixm {xs : List α} {z : Int} {Q : α → Prop} (h0 : 0 ≤ z) (h1 : z < xs.length) (h : ∀ x ∈ xs, Q x) : RO Q (ixR xs z) := by
  obtain ⟨x, e, hx⟩ := ixR_ok h0 h1
  exact ⟨x, e, h x (List.mem_of_getElem? hx)⟩
theorem mulR_ok {a b : Int} (a1 : -4611686018427387904 < a) (a2 : a < 4611686018427387904) (b1 : -4611686018427387904 < b) (b2 : b < 4611686018427387904) : mulR a b = .ok (a * b) := by
  have x := lg a1 a2
  have y := lg b1 b2
  unfold mulR; rw [if_pos (by omega)]
theorem modR_ok {a b : Int} (h : 0 < b) : modR a b = .ok (a % b) := by unfold modR; rw [if_pos h]
theorem divR_ok {a b : Int} (h : 0 < b) (h2 : b < 4611686018427387904) : divR a b = .ok (a / b) := by
  have x := lg (i := b) (by omega) h2
  unfold divR; rw [if_pos ⟨h, by omega⟩]
theorem appR_ok {xs : List α} {v : α} (h : xs.length < 10000000) : appR xs v = .ok (xs ++ [v]) := by unfold appR; rw [if_pos h]
theorem lcG_ok {p : α → Res Bool} {g : α → Res β} {q : α → Bool} {f : α → β} : ∀ (xs : List α), (∀ x ∈ xs, p x = .ok (q x)) → (∀ x ∈ xs, q x = true → g x = .ok (f x)) → lcG p g xs = .ok ((xs.filter q).map f)
  | [], _, _ => rfl
  | x :: xs, h1, h2 => by
    unfold lcG
    rw [h1 x List.mem_cons_self]
    cases hq : q x with
    | true =>
      simp only
      rw [h2 x List.mem_cons_self hq]
      simp only
      rw [lcG_ok xs (fun y hy => h1 y (List.mem_cons_of_mem _ hy)) (fun y hy => h2 y (List.mem_cons_of_mem _ hy)), List.filter_cons_of_pos hq]
      rfl
    | false =>
      simp only
      rw [lcG_ok xs (fun y hy => h1 y (List.mem_cons_of_mem _ hy)) (fun y hy => h2 y (List.mem_cons_of_mem _ hy)), List.filter_cons_of_neg (by rw [hq]; decide)]
theorem lcR_ok {p : α → Res Bool} {g : α → Res β} {q : α → Bool} {f : α → β} {xs : List α} (hl : xs.length < 10000000) (h1 : ∀ x ∈ xs, p x = .ok (q x)) (h2 : ∀ x ∈ xs, q x = true → g x = .ok (f x)) : lcR xs p g = .ok ((xs.filter q).map f) := by
  unfold lcR; rw [if_pos hl]; exact lcG_ok xs h1 h2
theorem lcR_map {g : α → Res β} {f : α → β} {xs : List α} (hl : xs.length < 10000000) (h2 : ∀ x ∈ xs, g x = .ok (f x)) : lcR xs (fun _ => .ok true) g = .ok (xs.map f) := by
  have := lcR_ok (q := fun _ => true) hl (fun _ _ => rfl) (fun x hx _ => h2 x hx)
  rw [this, List.filter_eq_self.mpr fun _ _ => rfl]
/-- items by a promise -/
theorem ro_lc {g : α → Res β} {Q : α → β → Prop} {xs : List α} (hl : xs.length < 10000000) (h : ∀ x ∈ xs, RO (Q x) (g x)) : RO (fun (ys : List β) => ys.length = xs.length ∧ ∀ (i : Nat) x y, xs[i]? = some x → ys[i]? = some y → Q x y) (lcR xs (fun _ => .ok true) g) := by
  classical
  have key : ∀ xs : List α, (∀ x ∈ xs, RO (Q x) (g x)) → RO (fun (ys : List β) => ys.length = xs.length ∧ ∀ (i : Nat) x y, xs[i]? = some x → ys[i]? = some y → Q x y) (lcG (fun _ => .ok true) g xs) := by
    intro xs
    induction xs with
    | nil => intro _; exact ⟨[], rfl, rfl, fun i x y hx => by simp at hx⟩
    | cons x xs ih =>
      intro h
      obtain ⟨y, e, q⟩ := h x List.mem_cons_self
      obtain ⟨ys, e2, hl, q2⟩ := ih fun z hz => h z (List.mem_cons_of_mem _ hz)
      refine ⟨y :: ys, by unfold lcG; simp only [e, e2], by simp [hl], fun i x' y' hx hy => ?_⟩
      cases i with
      | zero => simp at hx hy; subst hx hy; exact q
      | succ i => exact q2 i x' y' (by simpa using hx) (by simpa using hy)
  unfold lcR; rw [if_pos hl]; exact key xs h
end
end Ty
namespace Ty
open PySem L2 Mv
/-! what is raised -/
end Ty
namespace Sh
open PySem L2 Mv Ty
noncomputable def p_law_cell (script : List Int) (k : Int) : Res Int := oRes (
  if (decide (k < (script.length : Int))) = true then
  (oN (ixR script k) fun at0 =>
    .rt (absI at0))
  else
  (.rt 0))
noncomputable def p_law_digits (cell : Int) (count : Int) (size : Int) : Res (List Int) := oRes (
  oN (rngR count) fun rng =>
  oB (oFor (fun (k : Int) => fun (s : List Int × Int) => match s with | (row, rest0) => (
        if ((decide ((10 ^ 18) ≤ cell)) && (decide (0 < rest0))) = true then
        (oN (modR rest0 size) fun mod0 =>
          oN (appR row mod0) fun row1 =>
          oN (divR rest0 size) fun div =>
          .nx (row1, div))
        else
        (oN (mulR 7919 k) fun prod =>
          lt ((((cell + prod) + 13) % 2147483647)) fun mixed =>
          oN (mulR mixed (mixed + 48271)) fun prod1 =>
          lt ((prod1 % 2147483629)) fun mixed1 =>
          oN (mulR mixed1 (mixed1 + 69621)) fun prod2 =>
          oN (mulR 31 k) fun prod3 =>
          lt (((prod2 + prod3) % 2147483647)) fun mixed2 =>
          oN (modR (mixed2 / 9) size) fun mod1 =>
          oN (appR row mod1) fun row2 =>
          .nx (row2, rest0)))) rng ([], cell))
  (fun (s : List Int × Int) => match s with | (row3, rest1) => (
      .rt row3)))
noncomputable def p_law_seed (script : List Int) (k : Int) : Res Int := oRes (
  if (decide (k < (script.length : Int))) = true then
  (oN (ixR script k) fun at0 =>
    .rt (absI at0))
  else
  (oN (p_law_cell script 0) fun law_cell =>
    oN (mulR 101 k) fun prod =>
    oN (p_law_digits ((law_cell + prod) + 7) 1 (10 ^ 9)) fun law_digits =>
    oN (ixR law_digits 0) fun at1 =>
    .rt at1))
noncomputable def p_law_is_int (value : Int) : Res Bool := oRes (
  .rt (true && (!false)))
end Sh
namespace Sh
open PySem L2 Mv Ty
theorem modB {a b : Int} (h : 0 < b) : 0 ≤ a % b ∧ a % b < b := ⟨Int.emod_nonneg a (by omega), Int.emod_lt_of_pos a h⟩
theorem digits_ok (c n size : Int) (hn : 0 ≤ n) (hn' : n ≤ 1000000) (hs : 0 < size) (hs' : size ≤ 1000000000) : RO (fun row : List Int => (row.length : Int) = n ∧ ∀ x ∈ row, 0 ≤ x ∧ x < size) (p_law_digits c n size) := by
  unfold p_law_digits
  refine ro_res (out_Ne (rngR_ok (by omega) (by omega)) (out_B (out_rng (fun i (s : List Int × Int) => s.1.length = i ∧ ∀ x ∈ s.1, 0 ≤ x ∧ x < size) 0 n.toNat _ ⟨rfl, fun x hx => by cases hx⟩ ?_) ?_))
  · rintro i ⟨row, rest⟩ hi ⟨h1, h2⟩
    dsimp only at h1 h2 ⊢
    have push : ∀ z, ∀ x ∈ row ++ [z % size], 0 ≤ x ∧ x < size := fun z x hx => by
      obtain hx | hx := List.mem_append.mp hx
      · exact h2 x hx
      · rw [List.mem_singleton.mp hx]; exact modB hs
    refine out_if (fun _ => ?_) (fun _ => ?_)
    · refine out_Ne (modR_ok hs) (out_Ne (appR_ok (by omega)) (out_Ne (divR_ok hs (by omega)) (.nx ⟨by simp [h1], push _⟩)))
    · refine out_Ne (mulR_ok (by omega) (by omega) (by omega) (by omega)) (out_lt ?_)
      generalize hm : (((c + 7919 * (0 + (i : Int))) + 13) % 2147483647) = mixed
      have b1 : 0 ≤ mixed ∧ mixed < 2147483647 := by rw [← hm]; exact modB (by decide)
      refine out_Ne (mulR_ok (by omega) (by omega) (by omega) (by omega)) (out_lt ?_)
      generalize hm1 : ((mixed * (mixed + 48271)) % 2147483629) = mixed1
      have b2 : 0 ≤ mixed1 ∧ mixed1 < 2147483629 := by rw [← hm1]; exact modB (by decide)
      refine out_Ne (mulR_ok (by omega) (by omega) (by omega) (by omega)) (out_Ne (mulR_ok (by omega) (by omega) (by omega) (by omega)) (out_lt (out_Ne (modR_ok hs) (out_Ne (appR_ok (by omega)) (.nx ⟨by simp [h1], push _⟩)))))
  · rintro ⟨row, rest⟩ ⟨h1, h2⟩
    dsimp only at h1 h2 ⊢
    exact .rt ⟨by omega, h2⟩
theorem absI_nn (z : Int) : 0 ≤ absI z := by unfold absI; split <;> omega
theorem cell_ok (s : List Int) (k : Int) (h0 : 0 ≤ k) : RO (fun c => 0 ≤ c) (p_law_cell s k) := by
  unfold p_law_cell
  refine ro_res (out_ifd (fun h => ?_) (fun h => ?_))
  · exact out_N (ro_ix h0 h) fun v _ _ => .rt (absI_nn v)
  · exact .rt (by decide)
theorem seed_ok (s : List Int) (k : Int) (h0 : 0 ≤ k) (h1 : k ≤ 1000000) : RO (fun c => 0 ≤ c) (p_law_seed s k) := by
  unfold p_law_seed
  refine ro_res (out_ifd (fun h => ?_) (fun h => ?_))
  · exact out_N (ro_ix h0 h) fun v _ _ => .rt (absI_nn v)
  · refine out_N (cell_ok s 0 (by decide)) fun c _ hc => out_Ne (mulR_ok (by omega) (by omega) (by omega) (by omega)) (out_N (digits_ok _ 1 (10 ^ 9) (by decide) (by decide) (by decide) (by decide)) fun row _ hr => ?_)
    exact out_N (ro_ixm (by decide) (by omega) hr.2) fun v _ hv => .rt hv.1
end Sh
namespace K14
open PySem L2 Mv
def top (i : Nat) : Stmt := PySem.Challenge.pw_foreworth_k14_plain_policies.main.body.getD i (.Pass ⟨0, 0, 0, 0⟩)
abbrev s_distinct : Stmt := top 1
abbrev s_occupied : Stmt := top 4
abbrev s_law_cell : Stmt := top 11
abbrev s_law_digits : Stmt := top 12
abbrev s_law_seed : Stmt := top 13
abbrev s_law_is_int : Stmt := top 14
abbrev s_law_standing : Stmt := top 15
abbrev s_law_spots : Stmt := top 17
abbrev s_law_scene : Stmt := top 16
abbrev s_law_clear : Stmt := top 18
abbrev s_law_numbers : Stmt := top 19
abbrev s_law_dues : Stmt := top 20
abbrev s_LeastNode_pick : Stmt := inClass (top 5) 0
abbrev s_MostLanes_pick : Stmt := inClass (top 6) 0
abbrev s_ByRow_pick : Stmt := inClass (top 7) 1
abbrev s_Fixed_pick : Stmt := inClass (top 8) 1
abbrev s_Peek_pick : Stmt := inClass (top 9) 0
abbrev s_law_asked : Stmt := top 21
abbrev s_ByRow_init : Stmt := inClass (top 7) 0
abbrev s_Fixed_init : Stmt := inClass (top 8) 0
abbrev s_law : Stmt := top 22
/-- what the top has written -/
structure Txt (P : Program) (K : PySem.W.Frag) (mg : Str → Option Value) where
  C_ByRow : Addr
  g_ByRow : mg "ByRow" = some (.ref C_ByRow)
  cl_ByRow : Cls K C_ByRow
  nf_ByRow_numbers : NoAttr K C_ByRow "numbers"
  nf_ByRow_picks : NoAttr K C_ByRow "picks"
  C_Fixed : Addr
  g_Fixed : mg "Fixed" = some (.ref C_Fixed)
  cl_Fixed : Cls K C_Fixed
  nf_Fixed_asked : NoAttr K C_Fixed "asked"
  nf_Fixed_listed : NoAttr K C_Fixed "listed"
  C_LeastNode : Addr
  g_LeastNode : mg "LeastNode" = some (.ref C_LeastNode)
  cl_LeastNode : Cls K C_LeastNode
  mk0_LeastNode : Mk0 K C_LeastNode
  C_MostLanes : Addr
  g_MostLanes : mg "MostLanes" = some (.ref C_MostLanes)
  cl_MostLanes : Cls K C_MostLanes
  mk0_MostLanes : Mk0 K C_MostLanes
  C_Peek : Addr
  g_Peek : mg "Peek" = some (.ref C_Peek)
  cl_Peek : Cls K C_Peek
  mk0_Peek : Mk0 K C_Peek
  t_END : Tok
  n_END : mg "END" = some (.int (-1) t_END)
  a_distinct : Addr
  fd_distinct : FuncData
  F_distinct : Fun K "distinct" "distinct" s_distinct a_distinct fd_distinct
  k_distinct : PySem.W.keepIn K (.ref a_distinct) = true
  g_distinct : mg "distinct" = some (.ref a_distinct)
  b_distinct : Binds K fd_distinct ["row"] []
  a_occupied : Addr
  fd_occupied : FuncData
  F_occupied : Fun K "occupied" "occupied" s_occupied a_occupied fd_occupied
  k_occupied : PySem.W.keepIn K (.ref a_occupied) = true
  g_occupied : mg "occupied" = some (.ref a_occupied)
  b_occupied : Binds K fd_occupied ["standing"] []
  a_law_cell : Addr
  fd_law_cell : FuncData
  F_law_cell : Fun K "_law_cell" "_law_cell" s_law_cell a_law_cell fd_law_cell
  k_law_cell : PySem.W.keepIn K (.ref a_law_cell) = true
  g_law_cell : mg "_law_cell" = some (.ref a_law_cell)
  b_law_cell : Binds K fd_law_cell ["_law_script", "_law_k"] []
  a_law_digits : Addr
  fd_law_digits : FuncData
  F_law_digits : Fun K "_law_digits" "_law_digits" s_law_digits a_law_digits fd_law_digits
  k_law_digits : PySem.W.keepIn K (.ref a_law_digits) = true
  g_law_digits : mg "_law_digits" = some (.ref a_law_digits)
  b_law_digits : Binds K fd_law_digits ["_law_cell_here", "_law_count", "_law_size"] []
  a_law_seed : Addr
  fd_law_seed : FuncData
  F_law_seed : Fun K "_law_seed" "_law_seed" s_law_seed a_law_seed fd_law_seed
  k_law_seed : PySem.W.keepIn K (.ref a_law_seed) = true
  g_law_seed : mg "_law_seed" = some (.ref a_law_seed)
  b_law_seed : Binds K fd_law_seed ["_law_script", "_law_k"] []
  a_law_is_int : Addr
  fd_law_is_int : FuncData
  F_law_is_int : Fun K "_law_is_int" "_law_is_int" s_law_is_int a_law_is_int fd_law_is_int
  k_law_is_int : PySem.W.keepIn K (.ref a_law_is_int) = true
  g_law_is_int : mg "_law_is_int" = some (.ref a_law_is_int)
  b_law_is_int : Binds K fd_law_is_int ["_law_value"] []
  a_law_standing : Addr
  fd_law_standing : FuncData
  F_law_standing : Fun K "_law_standing" "_law_standing" s_law_standing a_law_standing fd_law_standing
  k_law_standing : PySem.W.keepIn K (.ref a_law_standing) = true
  g_law_standing : mg "_law_standing" = some (.ref a_law_standing)
  b_law_standing : Binds K fd_law_standing ["_law_row", "_law_count", "_law_many"] []
  a_law_spots : Addr
  fd_law_spots : FuncData
  F_law_spots : Fun K "_law_spots" "_law_spots" s_law_spots a_law_spots fd_law_spots
  k_law_spots : PySem.W.keepIn K (.ref a_law_spots) = true
  g_law_spots : mg "_law_spots" = some (.ref a_law_spots)
  b_law_spots : Binds K fd_law_spots ["_law_standing_here"] []
  a_law_scene : Addr
  fd_law_scene : FuncData
  F_law_scene : Fun K "_law_scene" "_law_scene" s_law_scene a_law_scene fd_law_scene
  k_law_scene : PySem.W.keepIn K (.ref a_law_scene) = true
  g_law_scene : mg "_law_scene" = some (.ref a_law_scene)
  b_law_scene : Binds K fd_law_scene ["_law_cell_here"] []
  a_law_clear : Addr
  fd_law_clear : FuncData
  F_law_clear : Fun K "_law_clear" "_law_clear" s_law_clear a_law_clear fd_law_clear
  k_law_clear : PySem.W.keepIn K (.ref a_law_clear) = true
  g_law_clear : mg "_law_clear" = some (.ref a_law_clear)
  b_law_clear : Binds K fd_law_clear ["_law_scene_here", "_law_places"] []
  a_law_numbers : Addr
  fd_law_numbers : FuncData
  F_law_numbers : Fun K "_law_numbers" "_law_numbers" s_law_numbers a_law_numbers fd_law_numbers
  k_law_numbers : PySem.W.keepIn K (.ref a_law_numbers) = true
  g_law_numbers : mg "_law_numbers" = some (.ref a_law_numbers)
  b_law_numbers : Binds K fd_law_numbers ["_law_cell_here"] []
  a_law_dues : Addr
  fd_law_dues : FuncData
  F_law_dues : Fun K "_law_dues" "_law_dues" s_law_dues a_law_dues fd_law_dues
  k_law_dues : PySem.W.keepIn K (.ref a_law_dues) = true
  g_law_dues : mg "_law_dues" = some (.ref a_law_dues)
  b_law_dues : Binds K fd_law_dues ["_law_scene_here", "_law_numbers_here", "_law_turn"] []
  a_LeastNode_pick : Addr
  fd_LeastNode_pick : FuncData
  F_LeastNode_pick : Fun K "pick" "LeastNode.pick" s_LeastNode_pick a_LeastNode_pick fd_LeastNode_pick
  M_LeastNode_pick : Meth K C_LeastNode "pick" a_LeastNode_pick
  kb_LeastNode_pick : KB K fd_LeastNode_pick ["self", "standing", "shown"] 2 ["shown"]
  d_LeastNode_pick : ∃ ds, Vals [V.non] ds ∧ Binds K fd_LeastNode_pick ["self", "standing", "shown"] ds
  a_MostLanes_pick : Addr
  fd_MostLanes_pick : FuncData
  F_MostLanes_pick : Fun K "pick" "MostLanes.pick" s_MostLanes_pick a_MostLanes_pick fd_MostLanes_pick
  M_MostLanes_pick : Meth K C_MostLanes "pick" a_MostLanes_pick
  kb_MostLanes_pick : KB K fd_MostLanes_pick ["self", "standing", "shown"] 2 ["shown"]
  d_MostLanes_pick : ∃ ds, Vals [V.non] ds ∧ Binds K fd_MostLanes_pick ["self", "standing", "shown"] ds
  a_ByRow_pick : Addr
  fd_ByRow_pick : FuncData
  F_ByRow_pick : Fun K "pick" "ByRow.pick" s_ByRow_pick a_ByRow_pick fd_ByRow_pick
  M_ByRow_pick : Meth K C_ByRow "pick" a_ByRow_pick
  kb_ByRow_pick : KB K fd_ByRow_pick ["self", "standing", "shown"] 2 ["shown"]
  d_ByRow_pick : ∃ ds, Vals [V.non] ds ∧ Binds K fd_ByRow_pick ["self", "standing", "shown"] ds
  a_Fixed_pick : Addr
  fd_Fixed_pick : FuncData
  F_Fixed_pick : Fun K "pick" "Fixed.pick" s_Fixed_pick a_Fixed_pick fd_Fixed_pick
  M_Fixed_pick : Meth K C_Fixed "pick" a_Fixed_pick
  kb_Fixed_pick : KB K fd_Fixed_pick ["self", "standing", "shown"] 2 ["shown"]
  d_Fixed_pick : ∃ ds, Vals [V.non] ds ∧ Binds K fd_Fixed_pick ["self", "standing", "shown"] ds
  a_Peek_pick : Addr
  fd_Peek_pick : FuncData
  F_Peek_pick : Fun K "pick" "Peek.pick" s_Peek_pick a_Peek_pick fd_Peek_pick
  M_Peek_pick : Meth K C_Peek "pick" a_Peek_pick
  kb_Peek_pick : KB K fd_Peek_pick ["self", "standing", "shown"] 2 ["shown"]
  d_Peek_pick : ∃ ds, Vals [V.non] ds ∧ Binds K fd_Peek_pick ["self", "standing", "shown"] ds
  a_law_asked : Addr
  fd_law_asked : FuncData
  F_law_asked : Fun K "_law_asked" "_law_asked" s_law_asked a_law_asked fd_law_asked
  k_law_asked : PySem.W.keepIn K (.ref a_law_asked) = true
  g_law_asked : mg "_law_asked" = some (.ref a_law_asked)
  b_law_asked : Binds K fd_law_asked ["_law_policy", "_law_scene_here"] []
  a_ByRow_init : Addr
  fd_ByRow_init : FuncData
  F_ByRow_init : Fun K "__init__" "ByRow.__init__" s_ByRow_init a_ByRow_init fd_ByRow_init
  mk_ByRow : Mk K C_ByRow a_ByRow_init
  b_ByRow_init : Binds K fd_ByRow_init ["self", "row"] []
  a_Fixed_init : Addr
  fd_Fixed_init : FuncData
  F_Fixed_init : Fun K "__init__" "Fixed.__init__" s_Fixed_init a_Fixed_init fd_Fixed_init
  mk_Fixed : Mk K C_Fixed a_Fixed_init
  b_Fixed_init : Binds K fd_Fixed_init ["self", "row"] []
  a_law : Addr
  fd_law : FuncData
  F_law : Fun K "law" "law" s_law a_law fd_law
  k_law : PySem.W.keepIn K (.ref a_law) = true
  g_law : mg "law" = some (.ref a_law)
  b_law : Binds K fd_law ["_law_script"] []
  z_len : mg "len" = none
  z_abs : mg "abs" = none
  z_int : mg "int" = none
  z_list : mg "list" = none
  z_range : mg "range" = none
  z_min : mg "min" = none
  z_max : mg "max" = none
  z_sorted : mg "sorted" = none
  z_set : mg "set" = none
  z_tuple : mg "tuple" = none
  z_isinstance : mg "isinstance" = none
  z_bool : mg "bool" = none
  nd_Pol : [C_LeastNode, C_MostLanes, C_ByRow, C_Peek, C_Fixed].Nodup
section
variable {P : Program} {w : World} {base : Heap} {K : PySem.W.Frag} {mg : Str → Option Value}
/-! ### distinct -/
theorem sc_distinct : FnScope ["row"] ["row"] (defScope s_distinct) := ⟨rfl, rfl, rfl, by decide +kernel, rfl, by decide +kernel, by decide +kernel⟩
noncomputable def c_distinct : SM :=
  (sRet (eDist (eVar 0)))
noncomputable def m_distinct : FM := fnM 1 1 c_distinct
theorem ok_distinct (T : Txt P K mg) : FnOk P w K mg base (L2N.CX P w) 1 T.a_distinct T.fd_distinct ["row"] (spM K m_distinct) :=
  fn_okM (k := 0) (F := c_distinct) 1 1 rfl rfl T.F_distinct sc_distinct fun cdv A outer s H E hr => by
    unfold c_distinct 
    exact (ss_one (s_ret (m_dist rfl (by rfl) T.z_sorted (by rfl) T.z_set (b_var 0))))
/-! ### occupied -/
theorem sc_occupied : FnScope ["standing", "node"] ["standing"] (defScope s_occupied) := ⟨rfl, rfl, rfl, by decide +kernel, rfl, by decide +kernel, by decide +kernel⟩
noncomputable def c_occupied : SM :=
  (sFrz 0 (sRet (eFn m_distinct (a0Cons (frzE (eLc [1] (iSeq (eVar 0)) (tgName 1) (eTest (eOp gNe (eVar 1) (eC (.int (-1))))) (eVar 1))) aNil))))
noncomputable def m_occupied : FM := fnM 1 2 c_occupied
theorem ok_occupied (T : Txt P K mg) : FnOk P w K mg base (L2N.CX P w) 2 T.a_occupied T.fd_occupied ["standing"] (spM K m_occupied) :=
  fn_okM (k := 1) (F := c_occupied) 1 2 rfl rfl T.F_occupied sc_occupied fun cdv A outer s H E hr => by
    have hu0 := units_cx (P := P) (w := w) (K := K) (mg := mg) (base := base) (N := ["standing", "node"]) (outer := outer) (H := H) (E := E) hr
    unfold c_occupied 
    exact (ss_one (s_frz 0 (s_ret (m_call (ok_distinct T) takes_cx (hr.mono (by decide)) (by rfl) T.g_distinct T.k_distinct T.b_distinct (a_cons (b_of_m (m_lc (own := [("node", 1)]) rfl sc_occupied.nd (i_list (b_var 0)) (blkOk_by (N := ["standing", "node"]) (sc := defScope s_occupied) (own := [("node", 1)]) (by decide +kernel)) (tw_name (by decide)) (fun _ _ _ _ _ => (pg_name (i := 1) sc_occupied.nd rfl (Or.inl rfl))) (fun _ _ _ _ _ => (c_one (t_cmp (op_neA hu0) ok_ne (b_var 1) (b_glob (v := .int (-1)) (by rfl) T.n_END ⟨_, rfl⟩ fun _ => rep_int) (nomark _)))) (fun _ _ _ _ _ => (b_var 1)))) a_nil)))))
/-! ### _law_cell -/
theorem sc_law_cell : FnScope ["_law_script", "_law_k"] ["_law_script", "_law_k"] (defScope s_law_cell) := ⟨rfl, rfl, rfl, by decide +kernel, rfl, by decide +kernel, by decide +kernel⟩
noncomputable def c_law_cell : SM :=
  (sSeq (sIf (eTest (eOp gLt (eVar 1) (eCall gLen (aCons (eVar 0) aNil))))
  (sRet (own0 (eCall gAbs (aCons (eIx (eVar 0) (eVar 1)) aNil))))
  sNext)
  (sRet (own0 (eC (.int 0)))))
noncomputable def m_law_cell : FM := fnM 2 2 c_law_cell
theorem ok_law_cell (T : Txt P K mg) : FnOk P w K mg base (L2N.CX P w) 1 T.a_law_cell T.fd_law_cell ["_law_script", "_law_k"] (spM K m_law_cell) :=
  fn_okM (k := 0) (F := c_law_cell) 2 2 rfl rfl T.F_law_cell sc_law_cell fun cdv A outer s H E hr => by
    unfold c_law_cell 
    exact (ss_cons (s_if (t_cmp op_lt ok_lt (b_var 1) (b_len (by rfl) T.z_len (ah_cons (b_var 0) ah_nil)) (nomark _)) (ss_one (s_ret (m_of_b (b_abs (by rfl) T.z_abs (ah_cons (b_ix (b_var 0) (b_var 1)) ah_nil))))) ss_nil)
    (ss_one (s_ret (m_of_b b_int))))
/-! ### _law_digits -/
theorem sc_law_digits : FnScope ["_law_cell_here", "_law_count", "_law_size", "_law_row", "_law_rest", "_law_k", "_law_mixed"] ["_law_cell_here", "_law_count", "_law_size"] (defScope s_law_digits) := ⟨rfl, rfl, rfl, by decide +kernel, rfl, by decide +kernel, by decide +kernel⟩
noncomputable def c_law_digits_1 : SM :=
  (sIf (tyAnd (eTest (eOp gGe (eVar 0) (eOp gPow (eC (.int 10)) (eC (.int 18))))) (eTest (eOp gGt (eVar 4) (eC (.int 0)))))
  (sSeq (sApp 3 (own0 (eOp gMod (eCall gToInt (aCons (eVar 4) aNil)) (eVar 2))))
  (sAsg 4 (own0 (eOp gDiv (eVar 4) (eVar 2)))))
  (sSeq (sAsg 6 (own0 (eOp gMod (eCall gToInt (aCons (eOp gAdd (eOp gAdd (eVar 0) (eOp gMul (eC (.int 7919)) (eVar 5))) (eC (.int 13))) aNil)) (eC (.int 2147483647)))))
  (sSeq (sAsg 6 (own0 (eOp gMod (eCall gToInt (aCons (eOp gMul (eVar 6) (eOp gAdd (eVar 6) (eC (.int 48271)))) aNil)) (eC (.int 2147483629)))))
  (sSeq (sAsg 6 (own0 (eOp gMod (eCall gToInt (aCons (eOp gAdd (eOp gMul (eVar 6) (eOp gAdd (eVar 6) (eC (.int 69621)))) (eOp gMul (eC (.int 31)) (eVar 5))) aNil)) (eC (.int 2147483647)))))
  (sApp 3 (own0 (eOp gMod (eCall gToInt (aCons (eOp gDiv (eVar 6) (eC (.int 9))) aNil)) (eVar 2))))))))
noncomputable def c_law_digits : SM :=
  (sSeq (sAsg 3 (eLst aNil))
  (sSeq (sAsg 4 (own0 (eVar 0)))
  (sSeq (sFor (iRg1 (aCons (eVar 1) aNil)) (tgName 5) c_law_digits_1)
  (sRetV 3))))
noncomputable def m_law_digits : FM := fnM 3 7 c_law_digits
theorem ok_law_digits (T : Txt P K mg) : FnOk P w K mg base (L2N.CX P w) 1 T.a_law_digits T.fd_law_digits ["_law_cell_here", "_law_count", "_law_size"] (spM K m_law_digits) :=
  fn_okM (k := 0) (F := c_law_digits) 3 7 rfl rfl T.F_law_digits sc_law_digits fun cdv A outer s H E hr => by
    unfold c_law_digits c_law_digits_1
    exact (ss_cons (s_set (i := 3) sc_law_digits.nd rfl (Or.inl rfl) (m_lst a_nil))
    (ss_cons (s_set (i := 4) sc_law_digits.nd rfl (Or.inl rfl) (m_of_b (b_var 0)))
    (ss_cons (s_for passes_cx rfl (i_range1 (by rfl) T.z_range (ah_cons (b_var 1) ah_nil)) (pg_name (i := 5) sc_law_digits.nd rfl (Or.inl rfl)) tg_name (ss_one (s_if (PW.pt (w_and (t_cmp op_ge ok_ge (b_var 0) (b_pow b_int b_int) (nomark _)) (w_and1 (t_cmp op_gt ok_gt (b_var 4) b_int (nomark _))))) (ss_cons (s_app 3 (m_of_b (b_mod (b_toInt (by rfl) T.z_int (ah_cons (b_var 4) ah_nil)) (b_var 2))))
    (ss_one (s_set (i := 4) sc_law_digits.nd rfl (Or.inl rfl) (m_of_b (b_div (b_var 4) (b_var 2)))))) (ss_cons (s_set (i := 6) sc_law_digits.nd rfl (Or.inl rfl) (m_of_b (b_mod (b_toInt (by rfl) T.z_int (ah_cons (b_add (b_add (b_var 0) (b_mul b_int (b_var 5))) b_int) ah_nil)) b_int)))
    (ss_cons (s_set (i := 6) sc_law_digits.nd rfl (Or.inl rfl) (m_of_b (b_mod (b_toInt (by rfl) T.z_int (ah_cons (b_mul (b_var 6) (b_add (b_var 6) b_int)) ah_nil)) b_int)))
    (ss_cons (s_set (i := 6) sc_law_digits.nd rfl (Or.inl rfl) (m_of_b (b_mod (b_toInt (by rfl) T.z_int (ah_cons (b_add (b_mul (b_var 6) (b_add (b_var 6) b_int)) (b_mul b_int (b_var 5))) ah_nil)) b_int)))
    (ss_one (s_app 3 (m_of_b (b_mod (b_toInt (by rfl) T.z_int (ah_cons (b_div (b_var 6) b_int) ah_nil)) (b_var 2)))))))))))
    (ss_one (s_retV 3)))))
/-! ### _law_seed -/
theorem sc_law_seed : FnScope ["_law_script", "_law_k"] ["_law_script", "_law_k"] (defScope s_law_seed) := ⟨rfl, rfl, rfl, by decide +kernel, rfl, by decide +kernel, by decide +kernel⟩
noncomputable def c_law_seed : SM :=
  (sSeq (sIf (eTest (eOp gLt (eVar 1) (eCall gLen (aCons (eVar 0) aNil))))
  (sRet (own0 (eCall gAbs (aCons (eIx (eVar 0) (eVar 1)) aNil))))
  sNext)
  (sRet (own0 (eIx (frzE (eFn m_law_digits (a0Cons (eOp gAdd (eOp gAdd (eFnF m_law_cell (aCons (eVar 0) (aCons (eC (.int 0)) aNil))) (eOp gMul (eC (.int 101)) (eVar 1))) (eC (.int 7))) (a0Cons (eC (.int 1)) (a0Cons (eOp gPow (eC (.int 10)) (eC (.int 9))) aNil))))) (eC (.int 0))))))
noncomputable def m_law_seed : FM := fnM 2 2 c_law_seed
theorem ok_law_seed (T : Txt P K mg) : FnOk P w K mg base (L2N.CX P w) 2 T.a_law_seed T.fd_law_seed ["_law_script", "_law_k"] (spM K m_law_seed) :=
  fn_okM (k := 1) (F := c_law_seed) 2 2 rfl rfl T.F_law_seed sc_law_seed fun cdv A outer s H E hr => by
    unfold c_law_seed 
    exact (ss_cons (s_if (t_cmp op_lt ok_lt (b_var 1) (b_len (by rfl) T.z_len (ah_cons (b_var 0) ah_nil)) (nomark _)) (ss_one (s_ret (m_of_b (b_abs (by rfl) T.z_abs (ah_cons (b_ix (b_var 0) (b_var 1)) ah_nil))))) ss_nil)
    (ss_one (s_ret (m_of_b (b_ix (b_of_m (m_call (ok_law_digits T) takes_cx (hr.mono (by decide)) (by rfl) T.g_law_digits T.k_law_digits T.b_law_digits (a_cons (b_add (b_add (b_callF (ok_law_cell T) takes_cx (hr.mono (by decide)) (by rfl) T.g_law_cell T.k_law_cell T.b_law_cell (ah_cons (b_var 0) (ah_cons b_int ah_nil))) (b_mul b_int (b_var 1))) b_int) (a_cons b_int (a_cons (b_pow b_int b_int) a_nil))))) b_int)))))
/-! ### _law_is_int -/
theorem sc_law_is_int : FnScope ["_law_value"] ["_law_value"] (defScope s_law_is_int) := ⟨rfl, rfl, rfl, by decide +kernel, rfl, by decide +kernel, by decide +kernel⟩
noncomputable def c_law_is_int : SM :=
  (sRet (own0 (eAnd (eUn (gIsi "int") (eVar 0)) (eNot (eUn (gIsi "bool") (eVar 0))))))
noncomputable def m_law_is_int : FM := fnM 1 1 c_law_is_int
theorem ok_law_is_int (T : Txt P K mg) : FnOk P w K mg base (L2N.CX P w) 1 T.a_law_is_int T.fd_law_is_int ["_law_value"] (spM K m_law_is_int) :=
  fn_okM (k := 0) (F := c_law_is_int) 1 1 rfl rfl T.F_law_is_int sc_law_is_int fun cdv A outer s H E hr => by
    unfold c_law_is_int 
    exact (ss_one (s_ret (m_of_b (b_and (b_isi "int" (by rfl) T.z_isinstance (by rfl) T.z_int (by decide +kernel) (b_var 0)) (b_one (b_not (b_isi "bool" (by rfl) T.z_isinstance (by rfl) T.z_bool (by decide +kernel) (b_var 0))))))))
/-! ### _law_standing -/
theorem sc_law_standing : FnScope ["_law_row", "_law_count", "_law_many", "_law_alive", "_law_standing_here", "_law_k", "_law_digit"] ["_law_row", "_law_count", "_law_many"] (defScope s_law_standing) := ⟨rfl, rfl, rfl, by decide +kernel, rfl, by decide +kernel, by decide +kernel⟩
noncomputable def c_law_standing_1 : SM :=
  (sSeq (sAsg 6 (own0 (eIx (eVar 0) (eOp gAdd (eC (.int 2)) (eVar 5)))))
  (sIf (tyAnd (eTest (eOp gEq (eOp gMod (eCall gToInt (aCons (eVar 6) aNil)) (eC (.int 7))) (eC (.int 3)))) (eTest (eOp gNe (eVar 5) (eVar 3))))
  (sApp 4 (own0 (eUn gNeg (eC (.int 1)))))
  (sIf (tyAnd (eTest (eOp gEq (eOp gMod (eCall gToInt (aCons (eVar 6) aNil)) (eC (.int 7))) (eC (.int 5)))) (tyAnd (eTest (eOp gGt (eVar 5) (eC (.int 0)))) (eTest (eOp gGe (eIx (eVar 4) (eOp Mv.gSub (eVar 5) (eC (.int 1)))) (eC (.int 0))))))
  (sApp 4 (own0 (eIx (eVar 4) (eOp Mv.gSub (eVar 5) (eC (.int 1))))))
  (sApp 4 (own0 (eOp gMod (eCall gToInt (aCons (eOp gDiv (eVar 6) (eC (.int 7))) aNil)) (eVar 2)))))))
noncomputable def c_law_standing : SM :=
  (sSeq (sAsg 3 (own0 (eOp gMod (eCall gToInt (aCons (eOp gDiv (eIx (eVar 0) (eC (.int 1))) (eC (.int 4))) aNil)) (eVar 1))))
  (sSeq (sAsg 4 (eLst aNil))
  (sSeq (sFor (iRg1 (aCons (eVar 1) aNil)) (tgName 5) c_law_standing_1)
  (sRetV 4))))
noncomputable def m_law_standing : FM := fnM 3 7 c_law_standing
theorem ok_law_standing (T : Txt P K mg) : FnOk P w K mg base (L2N.CX P w) 1 T.a_law_standing T.fd_law_standing ["_law_row", "_law_count", "_law_many"] (spM K m_law_standing) :=
  fn_okM (k := 0) (F := c_law_standing) 3 7 rfl rfl T.F_law_standing sc_law_standing fun cdv A outer s H E hr => by
    unfold c_law_standing c_law_standing_1
    exact (ss_cons (s_set (i := 3) sc_law_standing.nd rfl (Or.inl rfl) (m_of_b (b_mod (b_toInt (by rfl) T.z_int (ah_cons (b_div (b_ix (b_var 0) b_int) b_int) ah_nil)) (b_var 1))))
    (ss_cons (s_set (i := 4) sc_law_standing.nd rfl (Or.inl rfl) (m_lst a_nil))
    (ss_cons (s_for passes_cx rfl (i_range1 (by rfl) T.z_range (ah_cons (b_var 1) ah_nil)) (pg_name (i := 5) sc_law_standing.nd rfl (Or.inl rfl)) tg_name (ss_cons (s_set (i := 6) sc_law_standing.nd rfl (Or.inl rfl) (m_of_b (b_ix (b_var 0) (b_add b_int (b_var 5)))))
    (ss_one (s_if (PW.pt (w_and (t_cmp (op_eqA (units_cx hr)) ok_eq (b_mod (b_toInt (by rfl) T.z_int (ah_cons (b_var 6) ah_nil)) b_int) b_int (nomark _)) (w_and1 (t_cmp (op_neA (units_cx hr)) ok_ne (b_var 5) (b_var 3) (nomark _))))) (ss_one (s_app 4 (m_of_b (b_neg b_int)))) (ss_one (s_if (PW.pt (w_and (t_cmp (op_eqA (units_cx hr)) ok_eq (b_mod (b_toInt (by rfl) T.z_int (ah_cons (b_var 6) ah_nil)) b_int) b_int (nomark _)) (w_and (t_cmp op_gt ok_gt (b_var 5) b_int (nomark _)) (w_and1 (t_cmp op_ge ok_ge (b_ix (b_var 4) (b_sub (b_var 5) b_int)) b_int (nomark _)))))) (ss_one (s_app 4 (m_of_b (b_ix (b_var 4) (b_sub (b_var 5) b_int))))) (ss_one (s_app 4 (m_of_b (b_mod (b_toInt (by rfl) T.z_int (ah_cons (b_div (b_var 6) b_int) ah_nil)) (b_var 2)))))))))))
    (ss_one (s_retV 4)))))
/-! ### _law_spots -/
theorem sc_law_spots : FnScope ["_law_standing_here", "_law_place"] ["_law_standing_here"] (defScope s_law_spots) := ⟨rfl, rfl, rfl, by decide +kernel, rfl, by decide +kernel, by decide +kernel⟩
noncomputable def c_law_spots : SM :=
  (sFrz 0 (sRet (eDist (frzE (eLc [1] (iSeq (eVar 0)) (tgName 1) (eTest (eOp gGe (eVar 1) (eC (.int 0)))) (eVar 1))))))
noncomputable def m_law_spots : FM := fnM 1 2 c_law_spots
theorem ok_law_spots (T : Txt P K mg) : FnOk P w K mg base (L2N.CX P w) 1 T.a_law_spots T.fd_law_spots ["_law_standing_here"] (spM K m_law_spots) :=
  fn_okM (k := 0) (F := c_law_spots) 1 2 rfl rfl T.F_law_spots sc_law_spots fun cdv A outer s H E hr => by
    have hu0 := units_cx (P := P) (w := w) (K := K) (mg := mg) (base := base) (N := ["_law_standing_here", "_law_place"]) (outer := outer) (H := H) (E := E) hr
    unfold c_law_spots 
    exact (ss_one (s_frz 0 (s_ret (m_dist rfl (by rfl) T.z_sorted (by rfl) T.z_set (b_of_m (m_lc (own := [("_law_place", 1)]) rfl sc_law_spots.nd (i_list (b_var 0)) (blkOk_by (N := ["_law_standing_here", "_law_place"]) (sc := defScope s_law_spots) (own := [("_law_place", 1)]) (by decide +kernel)) (tw_name (by decide)) (fun _ _ _ _ _ => (pg_name (i := 1) sc_law_spots.nd rfl (Or.inl rfl))) (fun _ _ _ _ _ => (c_one (t_cmp op_ge ok_ge (b_var 1) b_int (nomark _)))) (fun _ _ _ _ _ => (b_var 1))))))))
/-! ### _law_scene -/
theorem sc_law_scene : FnScope ["_law_cell_here", "_law_row", "_law_count", "_law_standing_here", "_law_places", "_law_ahead", "_law_k", "_law_digit", "_law_seen", "_law_j", "_law_rest"] ["_law_cell_here"] (defScope s_law_scene) := ⟨rfl, rfl, rfl, by decide +kernel, rfl, by decide +kernel, by decide +kernel⟩
noncomputable def c_law_scene_1 : SM :=
  (sSeq (sAsg 10 (own0 (eOp gDiv (eVar 7) (eIx (frzE (eLst (a0Cons (eC (.int 4)) (a0Cons (eC (.int 96)) (a0Cons (eC (.int 2304)) aNil))))) (eVar 9)))))
  (sApp 8 (own0 (eCall gMin2 (aCons (eC (.int 199)) (aCons (eOp gAdd (eIx (eVar 4) (eOp gMod (eCall gToInt (aCons (eVar 10) aNil)) (eCall gLen (aCons (eVar 4) aNil)))) (eIx (frzE (eLst (a0Cons (eC (.int 0)) (a0Cons (eC (.int 0)) (a0Cons (eC (.int 0)) (a0Cons (eC (.int 1)) aNil)))))) (eOp gMod (eCall gToInt (aCons (eOp gDiv (eVar 10) (eC (.int 6))) aNil)) (eC (.int 4))))) aNil))))))
noncomputable def c_law_scene_2 : SM :=
  (sSeq (sAsg 7 (own0 (eIx (eVar 1) (eOp gAdd (eC (.int 26)) (eVar 6)))))
  (sSeq (sAsg 8 (eLst aNil))
  (sSeq (sFor (iRg1 (aCons (eOp gMod (eCall gToInt (aCons (eVar 7) aNil)) (eC (.int 4))) aNil)) (tgName 9) c_law_scene_1)
  (sSeq (sIf (eTest (eOp gLt (eIx (eVar 3) (eVar 6)) (eC (.int 0))))
  (sAsg 8 (eLst aNil))
  sNext)
  (sFrz 8 (sApp 5 (own0 (eVar 8))))))))
noncomputable def c_law_scene : SM :=
  (sSeq (sAsg 1 (eFn m_law_digits (a0Cons (eVar 0) (a0Cons (eC (.int 50)) (a0Cons (eC (.int 55440)) aNil)))))
  (sSeq (sAsg 2 (own0 (eOp gAdd (eC (.int 1)) (eOp gMod (eCall gToInt (aCons (eIx (eVar 1) (eC (.int 0))) aNil)) (eC (.int 6))))))
  (sSeq (sIf (eTest (eOp gEq (eOp gMod (eCall gToInt (aCons (eOp gDiv (eIx (eVar 1) (eC (.int 0))) (eC (.int 6))) aNil)) (eC (.int 8))) (eC (.int 5))))
  (sAsg 2 (own0 (eOp gAdd (eC (.int 7)) (eOp gMod (eCall gToInt (aCons (eOp gDiv (eIx (eVar 1) (eC (.int 0))) (eC (.int 48))) aNil)) (eC (.int 18))))))
  sNext)
  (sSeq (sFrz 1 (sAsg 3 (eFn m_law_standing (a0Cons (eVar 1) (a0Cons (eVar 2) (a0Cons (eIx (frzE (eLst (a0Cons (eC (.int 2)) (a0Cons (eC (.int 4)) (a0Cons (eC (.int 10)) (a0Cons (eC (.int 200)) aNil)))))) (eOp gMod (eCall gToInt (aCons (eIx (eVar 1) (eC (.int 1))) aNil)) (eC (.int 4)))) aNil))))))
  (sSeq (sFrz 3 (sAsg 4 (eFn m_law_spots (a0Cons (eVar 3) aNil))))
  (sSeq (sAsg 5 (eLst aNil))
  (sSeq (sFor (iRg1 (aCons (eVar 2) aNil)) (tgName 6) c_law_scene_2)
  (sFrz 5 (sFrz 3 (sRet (own0 (eTup (a0Cons (eVar 3) (a0Cons (eVar 5) (a0Cons (eOp gMod (eCall gToInt (aCons (eOp gDiv (eIx (eVar 1) (eC (.int 1))) (eC (.int 100))) aNil)) (eC (.int 4))) aNil)))))))))))))))
noncomputable def m_law_scene : FM := fnM 1 11 c_law_scene
theorem ok_law_scene (T : Txt P K mg) : FnOk P w K mg base (L2N.CX P w) 2 T.a_law_scene T.fd_law_scene ["_law_cell_here"] (spM K m_law_scene) :=
  fn_okM (k := 1) (F := c_law_scene) 1 11 rfl rfl T.F_law_scene sc_law_scene fun cdv A outer s H E hr => by
    unfold c_law_scene c_law_scene_2 c_law_scene_1
    exact (ss_cons (s_set (i := 1) sc_law_scene.nd rfl (Or.inl rfl) (m_call (ok_law_digits T) takes_cx (hr.mono (by decide)) (by rfl) T.g_law_digits T.k_law_digits T.b_law_digits (a_cons (b_var 0) (a_cons b_int (a_cons b_int a_nil)))))
    (ss_cons (s_set (i := 2) sc_law_scene.nd rfl (Or.inl rfl) (m_of_b (b_add b_int (b_mod (b_toInt (by rfl) T.z_int (ah_cons (b_ix (b_var 1) b_int) ah_nil)) b_int))))
    (ss_cons (s_if (t_cmp (op_eqA (units_cx hr)) ok_eq (b_mod (b_toInt (by rfl) T.z_int (ah_cons (b_div (b_ix (b_var 1) b_int) b_int) ah_nil)) b_int) b_int (nomark _)) (ss_one (s_set (i := 2) sc_law_scene.nd rfl (Or.inl rfl) (m_of_b (b_add b_int (b_mod (b_toInt (by rfl) T.z_int (ah_cons (b_div (b_ix (b_var 1) b_int) b_int) ah_nil)) b_int))))) ss_nil)
    (ss_cons (s_frz 1 (s_set (i := 3) sc_law_scene.nd rfl (Or.inl rfl) (m_call (ok_law_standing T) takes_cx (hr.mono (by decide)) (by rfl) T.g_law_standing T.k_law_standing T.b_law_standing (a_cons (b_var 1) (a_cons (b_var 2) (a_cons (b_ix (b_of_m (m_lst (a_cons b_int (a_cons b_int (a_cons b_int (a_cons b_int a_nil)))))) (b_mod (b_toInt (by rfl) T.z_int (ah_cons (b_ix (b_var 1) b_int) ah_nil)) b_int)) a_nil))))))
    (ss_cons (s_frz 3 (s_set (i := 4) sc_law_scene.nd rfl (Or.inl rfl) (m_call (ok_law_spots T) takes_cx (hr.mono (by decide)) (by rfl) T.g_law_spots T.k_law_spots T.b_law_spots (a_cons (b_var 3) a_nil))))
    (ss_cons (s_set (i := 5) sc_law_scene.nd rfl (Or.inl rfl) (m_lst a_nil))
    (ss_cons (s_for passes_cx rfl (i_range1 (by rfl) T.z_range (ah_cons (b_var 2) ah_nil)) (pg_name (i := 6) sc_law_scene.nd rfl (Or.inl rfl)) tg_name (ss_cons (s_set (i := 7) sc_law_scene.nd rfl (Or.inl rfl) (m_of_b (b_ix (b_var 1) (b_add b_int (b_var 6)))))
    (ss_cons (s_set (i := 8) sc_law_scene.nd rfl (Or.inl rfl) (m_lst a_nil))
    (ss_cons (s_for passes_cx rfl (i_range1 (by rfl) T.z_range (ah_cons (b_mod (b_toInt (by rfl) T.z_int (ah_cons (b_var 7) ah_nil)) b_int) ah_nil)) (pg_name (i := 9) sc_law_scene.nd rfl (Or.inl rfl)) tg_name (ss_cons (s_set (i := 10) sc_law_scene.nd rfl (Or.inl rfl) (m_of_b (b_div (b_var 7) (b_ix (b_of_m (m_lst (a_cons b_int (a_cons b_int (a_cons b_int a_nil))))) (b_var 9)))))
    (ss_one (s_app 8 (m_of_b (b_min2 rfl (by rfl) T.z_min (ah_cons b_int (ah_cons (b_add (b_ix (b_var 4) (b_mod (b_toInt (by rfl) T.z_int (ah_cons (b_var 10) ah_nil)) (b_len (by rfl) T.z_len (ah_cons (b_var 4) ah_nil)))) (b_ix (b_of_m (m_lst (a_cons b_int (a_cons b_int (a_cons b_int (a_cons b_int a_nil)))))) (b_mod (b_toInt (by rfl) T.z_int (ah_cons (b_div (b_var 10) b_int) ah_nil)) b_int))) ah_nil))))))))
    (ss_cons (s_if (t_cmp op_lt ok_lt (b_ix (b_var 3) (b_var 6)) b_int (nomark _)) (ss_one (s_set (i := 8) sc_law_scene.nd rfl (Or.inl rfl) (m_lst a_nil))) ss_nil)
    (ss_one (s_frz 8 (s_app 5 (m_of_b (b_var 8))))))))))
    (ss_one (s_frz 5 (s_frz 3 (s_ret (m_of_b (b_tup (a_cons (b_var 3) (a_cons (b_var 5) (a_cons (b_mod (b_toInt (by rfl) T.z_int (ah_cons (b_div (b_ix (b_var 1) b_int) b_int) ah_nil)) b_int) a_nil))))))))))))))))
/-! ### _law_clear -/
theorem sc_law_clear : FnScope ["_law_scene_here", "_law_places", "_law_node", "_law_clear_here", "_law_k"] ["_law_scene_here", "_law_places"] (defScope s_law_clear) := ⟨rfl, rfl, rfl, by decide +kernel, rfl, by decide +kernel, by decide +kernel⟩
noncomputable def c_law_clear_1 : SM :=
  (sIf (tyAnd (eTest (eOp gNe (eIx (eIx (eVar 0) (eC (.int 0))) (eVar 4)) (eVar 2))) (eTest (eOp (gIn false) (eVar 2) (eIx (eIx (eVar 0) (eC (.int 1))) (eVar 4)))))
  (sAsg 3 (own0 (eC (.bl false))))
  sNext)
noncomputable def c_law_clear_2 : SM :=
  (sSeq (sAsg 3 (own0 (eC (.bl true))))
  (sSeq (sFor (iRg1 (aCons (eCall gLen (aCons (eIx (eVar 0) (eC (.int 0))) aNil)) aNil)) (tgName 4) c_law_clear_1)
  (sIf (eTest (eVar 3))
  (sRetV 2)
  sNext)))
noncomputable def c_law_clear : SM :=
  (sSeq (sIf (eTest (eOp gLt (eIx (eVar 0) (eC (.int 2))) (eC (.int 2))))
  (sRet (own0 (eIx (eVar 1) (eC (.int 0)))))
  sNext)
  (sSeq (sFrz 1 (sFor (iSeq (eVar 1)) (tgName 2) c_law_clear_2))
  (sRet (own0 (eIx (eVar 1) (eC (.int 0)))))))
noncomputable def m_law_clear : FM := fnM 2 5 c_law_clear
theorem ok_law_clear (T : Txt P K mg) : FnOk P w K mg base (L2N.CX P w) 1 T.a_law_clear T.fd_law_clear ["_law_scene_here", "_law_places"] (spM K m_law_clear) :=
  fn_okM (k := 0) (F := c_law_clear) 2 5 rfl rfl T.F_law_clear sc_law_clear fun cdv A outer s H E hr => by
    unfold c_law_clear c_law_clear_2 c_law_clear_1
    exact (ss_cons (s_if (t_cmp op_lt ok_lt (b_ix (b_var 0) b_int) b_int (nomark _)) (ss_one (s_ret (m_of_b (b_ix (b_var 1) b_int)))) ss_nil)
    (ss_cons (s_frz 1 (s_for passes_cx rfl (i_list (b_var 1)) (pg_name (i := 2) sc_law_clear.nd rfl (Or.inl rfl)) tg_name (ss_cons (s_set (i := 3) sc_law_clear.nd rfl (Or.inl rfl) (m_of_b b_bl))
    (ss_cons (s_for passes_cx rfl (i_range1 (by rfl) T.z_range (ah_cons (b_len (by rfl) T.z_len (ah_cons (b_ix (b_var 0) b_int) ah_nil)) ah_nil)) (pg_name (i := 4) sc_law_clear.nd rfl (Or.inl rfl)) tg_name (ss_one (s_if (PW.pt (w_and (t_cmp (op_neA (units_cx hr)) ok_ne (b_ix (b_ix (b_var 0) b_int) (b_var 4)) (b_var 2) (nomark _)) (w_and1 (t_cmp op_in_seq ok_in (b_var 2) (b_ix (b_ix (b_var 0) b_int) (b_var 4)) (by rfl))))) (ss_one (s_set (i := 3) sc_law_clear.nd rfl (Or.inl rfl) (m_of_b b_bl))) ss_nil)))
    (ss_one (s_if (t_val (b_var 3)) (ss_one (s_retV 2)) ss_nil))))))
    (ss_one (s_ret (m_of_b (b_ix (b_var 1) b_int))))))
/-! ### _law_numbers -/
theorem sc_law_numbers : FnScope ["_law_cell_here", "_law_row", "_law_numbers_here", "_law_k"] ["_law_cell_here"] (defScope s_law_numbers) := ⟨rfl, rfl, rfl, by decide +kernel, rfl, by decide +kernel, by decide +kernel⟩
noncomputable def c_law_numbers_1 : SM :=
  (sIf (eTest (eOp gEq (eOp gMod (eCall gToInt (aCons (eOp gDiv (eIx (eVar 1) (eC (.int 0))) (eC (.int 5))) aNil)) (eC (.int 2))) (eC (.int 0))))
  (sApp 2 (own0 (eOp gMod (eCall gToInt (aCons (eIx (eVar 1) (eOp gAdd (eC (.int 1)) (eVar 3))) aNil)) (eC (.int 7)))))
  (sApp 2 (own0 (eIx (eVar 1) (eOp gAdd (eC (.int 1)) (eVar 3))))))
noncomputable def c_law_numbers : SM :=
  (sSeq (sAsg 1 (eFn m_law_digits (a0Cons (eVar 0) (a0Cons (eC (.int 5)) (a0Cons (eOp gAdd (eOp gPow (eC (.int 10)) (eC (.int 9))) (eC (.int 1))) aNil)))))
  (sSeq (sAsg 2 (eLst aNil))
  (sSeq (sFor (iRg1 (aCons (eOp gMod (eCall gToInt (aCons (eIx (eVar 1) (eC (.int 0))) aNil)) (eC (.int 5))) aNil)) (tgName 3) c_law_numbers_1)
  (sRetV 2))))
noncomputable def m_law_numbers : FM := fnM 1 4 c_law_numbers
theorem ok_law_numbers (T : Txt P K mg) : FnOk P w K mg base (L2N.CX P w) 2 T.a_law_numbers T.fd_law_numbers ["_law_cell_here"] (spM K m_law_numbers) :=
  fn_okM (k := 1) (F := c_law_numbers) 1 4 rfl rfl T.F_law_numbers sc_law_numbers fun cdv A outer s H E hr => by
    unfold c_law_numbers c_law_numbers_1
    exact (ss_cons (s_set (i := 1) sc_law_numbers.nd rfl (Or.inl rfl) (m_call (ok_law_digits T) takes_cx (hr.mono (by decide)) (by rfl) T.g_law_digits T.k_law_digits T.b_law_digits (a_cons (b_var 0) (a_cons b_int (a_cons (b_add (b_pow b_int b_int) b_int) a_nil)))))
    (ss_cons (s_set (i := 2) sc_law_numbers.nd rfl (Or.inl rfl) (m_lst a_nil))
    (ss_cons (s_for passes_cx rfl (i_range1 (by rfl) T.z_range (ah_cons (b_mod (b_toInt (by rfl) T.z_int (ah_cons (b_ix (b_var 1) b_int) ah_nil)) b_int) ah_nil)) (pg_name (i := 3) sc_law_numbers.nd rfl (Or.inl rfl)) tg_name (ss_one (s_if (t_cmp (op_eqA (units_cx hr)) ok_eq (b_mod (b_toInt (by rfl) T.z_int (ah_cons (b_div (b_ix (b_var 1) b_int) b_int) ah_nil)) b_int) b_int (nomark _)) (ss_one (s_app 2 (m_of_b (b_mod (b_toInt (by rfl) T.z_int (ah_cons (b_ix (b_var 1) (b_add b_int (b_var 3))) ah_nil)) b_int)))) (ss_one (s_app 2 (m_of_b (b_ix (b_var 1) (b_add b_int (b_var 3)))))))))
    (ss_one (s_retV 2)))))
/-! ### _law_dues -/
theorem sc_law_dues : FnScope ["_law_scene_here", "_law_numbers_here", "_law_turn", "_law_places", "_law_counts", "_law_number", "_law_told", "_law_most", "_law_node"] ["_law_scene_here", "_law_numbers_here", "_law_turn"] (defScope s_law_dues) := ⟨rfl, rfl, rfl, by decide +kernel, rfl, by decide +kernel, by decide +kernel⟩
noncomputable def c_law_dues : SM :=
  (sSeq (sAsg 3 (eFn m_law_spots (a0Cons (eIx (eVar 0) (eC (.int 0))) aNil)))
  (sSeq (sFrz 3 (sAsg 4 (eLc [8] (iSeq (eVar 3)) (tgName 8) tcYes (eCnt (eIx (eVar 0) (eC (.int 0))) (eVar 8)))))
  (sSeq (sAsg 5 (own0 (eC (.int 0))))
  (sSeq (sAsg 6 (own0 (eUn gNeg (eC (.int 1)))))
  (sSeq (sIf (eTest (eOp gLt (eVar 2) (eCall gLen (aCons (eVar 1) aNil))))
  (sSeq (sAsg 5 (own0 (eIx (eVar 1) (eVar 2))))
  (sAsg 6 (own0 (eVar 5))))
  sNext)
  (sSeq (sAsg 7 (own0 (eIx (eVar 3) (eIndex (eVar 4) (eCall gMax1 (aCons (eVar 4) aNil))))))
  (sRet (eLst (a0Cons (eIx (eVar 3) (eC (.int 0))) (a0Cons (eVar 7) (a0Cons (eIx (eVar 3) (eOp gMod (eCall gToInt (aCons (eVar 5) aNil)) (eCall gLen (aCons (eVar 3) aNil)))) (a0Cons (eFnF m_law_clear (aCons (eVar 0) (aCons (eVar 3) aNil))) (a0Cons (eVar 6) aNil)))))))))))))
noncomputable def m_law_dues : FM := fnM 3 9 c_law_dues
theorem ok_law_dues (T : Txt P K mg) : FnOk P w K mg base (L2N.CX P w) 2 T.a_law_dues T.fd_law_dues ["_law_scene_here", "_law_numbers_here", "_law_turn"] (spM K m_law_dues) :=
  fn_okM (k := 1) (F := c_law_dues) 3 9 rfl rfl T.F_law_dues sc_law_dues fun cdv A outer s H E hr => by
    have hu0 := units_cx (P := P) (w := w) (K := K) (mg := mg) (base := base) (N := ["_law_scene_here", "_law_numbers_here", "_law_turn", "_law_places", "_law_counts", "_law_number", "_law_told", "_law_most", "_law_node"]) (outer := outer) (H := H) (E := E) hr
    unfold c_law_dues 
    exact (ss_cons (s_set (i := 3) sc_law_dues.nd rfl (Or.inl rfl) (m_call (ok_law_spots T) takes_cx (hr.mono (by decide)) (by rfl) T.g_law_spots T.k_law_spots T.b_law_spots (a_cons (b_ix (b_var 0) b_int) a_nil)))
    (ss_cons (s_frz 3 (s_setLc (own := [("_law_node", 8)]) (i := 4) rfl sc_law_dues.nd rfl rfl (sw_true rfl rfl rfl (by decide +kernel)) (i_list (b_var 3)) (blkOk_by (N := ["_law_scene_here", "_law_numbers_here", "_law_turn", "_law_places", "_law_counts", "_law_number", "_law_told", "_law_most", "_law_node"]) (sc := defScope s_law_dues) (own := [("_law_node", 8)]) (by decide +kernel)) (tw_name (by decide)) (fun _ _ _ _ _ => (pg_name (i := 8) sc_law_dues.nd rfl (Or.inl rfl))) (fun _ _ _ _ _ => c_nil) (fun _ _ _ _ _ => (b_cnt (b_ix (b_var 0) b_int) (b_var 8)))))
    (ss_cons (s_set (i := 5) sc_law_dues.nd rfl (Or.inl rfl) (m_of_b b_int))
    (ss_cons (s_set (i := 6) sc_law_dues.nd rfl (Or.inl rfl) (m_of_b (b_neg b_int)))
    (ss_cons (s_if (t_cmp op_lt ok_lt (b_var 2) (b_len (by rfl) T.z_len (ah_cons (b_var 1) ah_nil)) (nomark _)) (ss_cons (s_set (i := 5) sc_law_dues.nd rfl (Or.inl rfl) (m_of_b (b_ix (b_var 1) (b_var 2))))
    (ss_one (s_set (i := 6) sc_law_dues.nd rfl (Or.inl rfl) (m_of_b (b_var 5))))) ss_nil)
    (ss_cons (s_set (i := 7) sc_law_dues.nd rfl (Or.inl rfl) (m_of_b (b_ix (b_var 3) (b_index (b_var 4) (b_max1 rfl (by rfl) T.z_max (ah_cons (b_var 4) ah_nil))))))
    (ss_one (s_ret (m_lst (a_cons (b_ix (b_var 3) b_int) (a_cons (b_var 7) (a_cons (b_ix (b_var 3) (b_mod (b_toInt (by rfl) T.z_int (ah_cons (b_var 5) ah_nil)) (b_len (by rfl) T.z_len (ah_cons (b_var 3) ah_nil)))) (a_cons (b_callF (ok_law_clear T) takes_cx (hr.mono (by decide)) (by rfl) T.g_law_clear T.k_law_clear T.b_law_clear (ah_cons (b_var 0) (ah_cons (b_var 3) ah_nil))) (a_cons (b_var 6) a_nil))))))))))))))
/-! ### LeastNode.pick -/
theorem sc_LeastNode_pick : FnScope ["self", "standing", "shown"] ["self", "standing", "shown"] (defScope s_LeastNode_pick) := ⟨rfl, rfl, rfl, by decide +kernel, rfl, by decide +kernel, by decide +kernel⟩
noncomputable def c_LeastNode_pick : SM :=
  (sFrz 1 (sRetX (eM (own0 (eIx (frzE (eFn m_occupied (a0Cons (eVar 1) aNil))) (eC (.int 0)))))))
noncomputable def m_LeastNode_pick : FV := fnV [some 1, none, none] 3 c_LeastNode_pick
theorem ok_LeastNode_pick (T : Txt P K mg) : FnOk P w K mg base (L2N.CX P w) 3 T.a_LeastNode_pick T.fd_LeastNode_pick ["self", "standing", "shown"] (spV K [some 1, none, none] m_LeastNode_pick) :=
  fn_okV (k := 2) (F := c_LeastNode_pick) [some 1, none, none] 3 rfl rfl T.F_LeastNode_pick sc_LeastNode_pick fun cdv A outer s H E hr => by
    unfold c_LeastNode_pick 
    exact (ss_one (s_frz 1 (s_retX (x_of (m_of_b (b_ix (b_of_m (m_call (ok_occupied T) takes_cx (hr.mono (by decide)) (by rfl) T.g_occupied T.k_occupied T.b_occupied (a_cons (b_var 1) a_nil))) b_int))))))
/-! ### MostLanes.pick -/
theorem sc_MostLanes_pick : FnScope ["self", "standing", "shown", "places", "best", "node"] ["self", "standing", "shown"] (defScope s_MostLanes_pick) := ⟨rfl, rfl, rfl, by decide +kernel, rfl, by decide +kernel, by decide +kernel⟩
noncomputable def c_MostLanes_pick_1 : SM :=
  (sIf (eTest (eOp gGt (eCnt (eVar 1) (eVar 5)) (eCnt (eVar 1) (eVar 4))))
  (sAsg 4 (own0 (eVar 5)))
  sNext)
noncomputable def c_MostLanes_pick : SM :=
  (sSeq (sFrz 1 (sAsg 3 (eFn m_occupied (a0Cons (eVar 1) aNil))))
  (sSeq (sAsg 4 (own0 (eIx (eVar 3) (eC (.int 0)))))
  (sSeq (sFrz 3 (sFor (iSeq (eVar 3)) (tgName 5) c_MostLanes_pick_1))
  (sRetNV 4))))
noncomputable def m_MostLanes_pick : FV := fnV [some 1, none, none] 6 c_MostLanes_pick
theorem ok_MostLanes_pick (T : Txt P K mg) : FnOk P w K mg base (L2N.CX P w) 3 T.a_MostLanes_pick T.fd_MostLanes_pick ["self", "standing", "shown"] (spV K [some 1, none, none] m_MostLanes_pick) :=
  fn_okV (k := 2) (F := c_MostLanes_pick) [some 1, none, none] 6 rfl rfl T.F_MostLanes_pick sc_MostLanes_pick fun cdv A outer s H E hr => by
    unfold c_MostLanes_pick c_MostLanes_pick_1
    exact (ss_cons (s_frz 1 (s_set (i := 3) sc_MostLanes_pick.nd rfl (Or.inl rfl) (m_call (ok_occupied T) takes_cx (hr.mono (by decide)) (by rfl) T.g_occupied T.k_occupied T.b_occupied (a_cons (b_var 1) a_nil))))
    (ss_cons (s_set (i := 4) sc_MostLanes_pick.nd rfl (Or.inl rfl) (m_of_b (b_ix (b_var 3) b_int)))
    (ss_cons (s_frz 3 (s_for passes_cx rfl (i_list (b_var 3)) (pg_name (i := 5) sc_MostLanes_pick.nd rfl (Or.inl rfl)) tg_name (ss_one (s_if (t_cmp op_gt ok_gt (b_cnt (b_var 1) (b_var 5)) (b_cnt (b_var 1) (b_var 4)) (nomark _)) (ss_one (s_set (i := 4) sc_MostLanes_pick.nd rfl (Or.inl rfl) (m_of_b (b_var 5)))) ss_nil))))
    (ss_one (s_retNV 4)))))
/-! ### ByRow.pick -/
theorem sc_ByRow_pick : FnScope ["self", "standing", "shown", "places", "number"] ["self", "standing", "shown"] (defScope s_ByRow_pick) := ⟨rfl, rfl, rfl, by decide +kernel, rfl, by decide +kernel, by decide +kernel⟩
noncomputable def c_ByRow_pick (T : Txt P K mg) : SM :=
  (sSeq (sFrz 1 (sAsg 3 (eFn m_occupied (a0Cons (eVar 1) aNil))))
  (sSeq (sAsg 4 (own0 (eC (.int 0))))
  (sSeq (sIf (eTest (eOp gLt (eFldB T.C_ByRow "picks" (eVar 0)) (eCall gLen (aCons (eFldB T.C_ByRow "numbers" (eVar 0)) aNil))))
  (sAsg 4 (own0 (eIx (eFldB T.C_ByRow "numbers" (eVar 0)) (eFldB T.C_ByRow "picks" (eVar 0)))))
  sNext)
  (sSeq (sSetFP 0 T.C_ByRow "picks" (gVar 0) (own0 (eOp gAdd (eFldB T.C_ByRow "picks" (eVar 0)) (eC (.int 1)))))
  (sRetX (eM (own0 (eIx (eVar 3) (eOp gMod (eCall gToInt (aCons (eVar 4) aNil)) (eCall gLen (aCons (eVar 3) aNil)))))))))))
noncomputable def m_ByRow_pick (T : Txt P K mg) : FV := fnV [some 1, none, none] 5 (c_ByRow_pick T)
theorem ok_ByRow_pick (T : Txt P K mg) : FnOk P w K mg base (L2N.CX P w) 3 T.a_ByRow_pick T.fd_ByRow_pick ["self", "standing", "shown"] (spV K [some 1, none, none] (m_ByRow_pick T)) :=
  fn_okV (k := 2) (F := (c_ByRow_pick T)) [some 1, none, none] 5 rfl rfl T.F_ByRow_pick sc_ByRow_pick fun cdv A outer s H E hr => by
    unfold c_ByRow_pick 
    exact (ss_cons (s_frz 1 (s_set (i := 3) sc_ByRow_pick.nd rfl (Or.inl rfl) (m_call (ok_occupied T) takes_cx (hr.mono (by decide)) (by rfl) T.g_occupied T.k_occupied T.b_occupied (a_cons (b_var 1) a_nil))))
    (ss_cons (s_set (i := 4) sc_ByRow_pick.nd rfl (Or.inl rfl) (m_of_b b_int))
    (ss_cons (s_if (t_cmp op_lt ok_lt (b_fldB T.cl_ByRow T.nf_ByRow_picks (b_var 0)) (b_len (by rfl) T.z_len (ah_cons (b_fldB T.cl_ByRow T.nf_ByRow_numbers (b_var 0)) ah_nil)) (nomark _)) (ss_one (s_set (i := 4) sc_ByRow_pick.nd rfl (Or.inl rfl) (m_of_b (b_ix (b_fldB T.cl_ByRow T.nf_ByRow_numbers (b_var 0)) (b_fldB T.cl_ByRow T.nf_ByRow_picks (b_var 0)))))) ss_nil)
    (ss_cons (s_setFP T.cl_ByRow T.nf_ByRow_picks (p_var 0) (m_of_b (b_add (b_fldB T.cl_ByRow T.nf_ByRow_picks (b_var 0)) b_int)))
    (ss_one (s_retX (x_of (m_of_b (b_ix (b_var 3) (b_mod (b_toInt (by rfl) T.z_int (ah_cons (b_var 4) ah_nil)) (b_len (by rfl) T.z_len (ah_cons (b_var 3) ah_nil))))))))))))
/-! ### Fixed.pick -/
theorem sc_Fixed_pick : FnScope ["self", "standing", "shown"] ["self", "standing", "shown"] (defScope s_Fixed_pick) := ⟨rfl, rfl, rfl, by decide +kernel, rfl, by decide +kernel, by decide +kernel⟩
noncomputable def c_Fixed_pick (T : Txt P K mg) : SM :=
  (sSeq (sSetFP 0 T.C_Fixed "asked" (gVar 0) (own0 (eOp gAdd (eFldB T.C_Fixed "asked" (eVar 0)) (eC (.int 1)))))
  (sSeq (sIf (eTest (eOp gGt (eFldB T.C_Fixed "asked" (eVar 0)) (eCall gLen (aCons (eFldB T.C_Fixed "listed" (eVar 0)) aNil))))
  (sRetX (eM (own0 (eC (.int (-1))))))
  sNext)
  (sRetX (eM (own0 (eIx (eFldB T.C_Fixed "listed" (eVar 0)) (eOp Mv.gSub (eFldB T.C_Fixed "asked" (eVar 0)) (eC (.int 1)))))))))
noncomputable def m_Fixed_pick (T : Txt P K mg) : FV := fnV [some 1, none, none] 3 (c_Fixed_pick T)
theorem ok_Fixed_pick (T : Txt P K mg) : FnOk P w K mg base (L2N.CX P w) 1 T.a_Fixed_pick T.fd_Fixed_pick ["self", "standing", "shown"] (spV K [some 1, none, none] (m_Fixed_pick T)) :=
  fn_okV (k := 0) (F := (c_Fixed_pick T)) [some 1, none, none] 3 rfl rfl T.F_Fixed_pick sc_Fixed_pick fun cdv A outer s H E hr => by
    unfold c_Fixed_pick 
    exact (ss_cons (s_setFP T.cl_Fixed T.nf_Fixed_asked (p_var 0) (m_of_b (b_add (b_fldB T.cl_Fixed T.nf_Fixed_asked (b_var 0)) b_int)))
    (ss_cons (s_if (t_cmp op_gt ok_gt (b_fldB T.cl_Fixed T.nf_Fixed_asked (b_var 0)) (b_len (by rfl) T.z_len (ah_cons (b_fldB T.cl_Fixed T.nf_Fixed_listed (b_var 0)) ah_nil)) (nomark _)) (ss_one (s_retX (x_of (m_of_b (b_glob (v := .int (-1)) (by rfl) T.n_END ⟨_, rfl⟩ fun _ => rep_int))))) ss_nil)
    (ss_one (s_retX (x_of (m_of_b (b_ix (b_fldB T.cl_Fixed T.nf_Fixed_listed (b_var 0)) (b_sub (b_fldB T.cl_Fixed T.nf_Fixed_asked (b_var 0)) b_int))))))))
/-! ### Peek.pick -/
theorem sc_Peek_pick : FnScope ["self", "standing", "shown", "places", "awaited", "lane", "node"] ["self", "standing", "shown"] (defScope s_Peek_pick) := ⟨rfl, rfl, rfl, by decide +kernel, rfl, by decide +kernel, by decide +kernel⟩
noncomputable def c_Peek_pick_1 : SM :=
  (sIf (eTest (eOp gNe (eVar 6) (eIx (eVar 1) (eVar 5))))
  (sDSet 4 (eVar 6) (eC (.bl true)))
  sNext)
noncomputable def c_Peek_pick_2 : SM :=
  (sFor (iSeq (eIx (eVar 2) (eVar 5))) (tgName 6) c_Peek_pick_1)
noncomputable def c_Peek_pick_3 : SM :=
  (sIf (eTest (eDIn false (eVar 6) (eVar 4)))
  (sRetNV 6)
  sNext)
noncomputable def c_Peek_pick : SM :=
  (sSeq (sFrz 1 (sAsg 3 (eFn m_occupied (a0Cons (eVar 1) aNil))))
  (sSeq (sIf (eTest (eOp gIsN (eVar 2) (eC .non)))
  (sRetX (eM (own0 (eIx (eVar 3) (eC (.int 0))))))
  sNext)
  (sSeq (sAsg 4 eDNew)
  (sSeq (sFor (iRg1 (aCons (eCall gLen (aCons (eVar 1) aNil)) aNil)) (tgName 5) c_Peek_pick_2)
  (sSeq (sFrz 3 (sFor (iSeq (eVar 3)) (tgName 6) c_Peek_pick_3))
  (sRetX (eM (own0 (eIx (eVar 3) (eC (.int 0)))))))))))
noncomputable def m_Peek_pick : FV := fnV [some 1, none, none] 7 c_Peek_pick
theorem ok_Peek_pick (T : Txt P K mg) : FnOk P w K mg base (L2N.CX P w) 3 T.a_Peek_pick T.fd_Peek_pick ["self", "standing", "shown"] (spV K [some 1, none, none] m_Peek_pick) :=
  fn_okV (k := 2) (F := c_Peek_pick) [some 1, none, none] 7 rfl rfl T.F_Peek_pick sc_Peek_pick fun cdv A outer s H E hr => by
    unfold c_Peek_pick c_Peek_pick_3 c_Peek_pick_2 c_Peek_pick_1
    exact (ss_cons (s_frz 1 (s_set (i := 3) sc_Peek_pick.nd rfl (Or.inl rfl) (m_call (ok_occupied T) takes_cx (hr.mono (by decide)) (by rfl) T.g_occupied T.k_occupied T.b_occupied (a_cons (b_var 1) a_nil))))
    (ss_cons (s_if (t_cmp op_isN ok_isN (b_var 2) b_non (nomark _)) (ss_one (s_retX (x_of (m_of_b (b_ix (b_var 3) b_int))))) ss_nil)
    (ss_cons (s_set (i := 4) sc_Peek_pick.nd rfl (Or.inl rfl) m_dnew)
    (ss_cons (s_for passes_cx rfl (i_range1 (by rfl) T.z_range (ah_cons (b_len (by rfl) T.z_len (ah_cons (b_var 1) ah_nil)) ah_nil)) (pg_name (i := 5) sc_Peek_pick.nd rfl (Or.inl rfl)) tg_name (ss_one (s_for passes_cx rfl (i_list (b_ix (b_var 2) (b_var 5))) (pg_name (i := 6) sc_Peek_pick.nd rfl (Or.inl rfl)) tg_name (ss_one (s_if (t_cmp (op_neA (units_cx hr)) ok_ne (b_var 6) (b_ix (b_var 1) (b_var 5)) (nomark _)) (ss_one (s_dset (units_cx hr) 4 (b_var 6) b_bl)) ss_nil)))))
    (ss_cons (s_frz 3 (s_for passes_cx rfl (i_list (b_var 3)) (pg_name (i := 6) sc_Peek_pick.nd rfl (Or.inl rfl)) tg_name (ss_one (s_if (t_dnotin (units_cx hr) (b_var 6) (b_var 4)) (ss_one (s_retNV 6)) ss_nil))))
    (ss_one (s_retX (x_of (m_of_b (b_ix (b_var 3) b_int))))))))))
/-! ### _law_asked -/
theorem sc_law_asked : FnScope ["_law_policy", "_law_scene_here", "_law_handed", "_law_peeked", "_law_told", "_law_seen"] ["_law_policy", "_law_scene_here"] (defScope s_law_asked) := ⟨rfl, rfl, rfl, by decide +kernel, rfl, by decide +kernel, by decide +kernel⟩
noncomputable def c_law_asked (T : Txt P K mg) : SM :=
  (sSeq (sAsg 2 (eList (eIx (eVar 1) (eC (.int 0)))))
  (sSeq (sAsg 3 (eLc [5] (iSeq (eIx (eVar 1) (eC (.int 1)))) (tgName 5) tcYes (frzE (eList (eVar 5)))))
  (sSeq (sIf (eTest (eOp gEq (eIx (eVar 1) (eC (.int 2))) (eC (.int 0))))
  (sFrz 2 (sSetX 4 (eAlt (okM T.C_LeastNode "pick" 0 (gVar 0)) (eMeth T.C_LeastNode "pick" 0 (gVar 0) [some 1, none, none] m_LeastNode_pick (gDef [.non] (gFz (eVar 2) gNil))) (eAlt (okM T.C_MostLanes "pick" 0 (gVar 0)) (eMeth T.C_MostLanes "pick" 0 (gVar 0) [some 1, none, none] m_MostLanes_pick (gDef [.non] (gFz (eVar 2) gNil))) (eAlt (okM T.C_ByRow "pick" 0 (gVar 0)) (eMeth T.C_ByRow "pick" 0 (gVar 0) [some 1, none, none] (m_ByRow_pick T) (gDef [.non] (gFz (eVar 2) gNil))) (eAlt (okM T.C_Peek "pick" 0 (gVar 0)) (eMeth T.C_Peek "pick" 0 (gVar 0) [some 1, none, none] m_Peek_pick (gDef [.non] (gFz (eVar 2) gNil))) (eMeth T.C_Fixed "pick" 0 (gVar 0) [some 1, none, none] (m_Fixed_pick T) (gDef [.non] (gFz (eVar 2) gNil)))))))))
  (sIf (eTest (eOp gEq (eIx (eVar 1) (eC (.int 2))) (eC (.int 1))))
  (sFrz 2 (sSetX 4 (eAlt (okM T.C_LeastNode "pick" 0 (gVar 0)) (eMeth T.C_LeastNode "pick" 0 (gVar 0) [some 1, none, none] m_LeastNode_pick (gApp 1 1 (gFz (eVar 2) gNil) (gFz (eC .non) gNil))) (eAlt (okM T.C_MostLanes "pick" 0 (gVar 0)) (eMeth T.C_MostLanes "pick" 0 (gVar 0) [some 1, none, none] m_MostLanes_pick (gApp 1 1 (gFz (eVar 2) gNil) (gFz (eC .non) gNil))) (eAlt (okM T.C_ByRow "pick" 0 (gVar 0)) (eMeth T.C_ByRow "pick" 0 (gVar 0) [some 1, none, none] (m_ByRow_pick T) (gApp 1 1 (gFz (eVar 2) gNil) (gFz (eC .non) gNil))) (eAlt (okM T.C_Peek "pick" 0 (gVar 0)) (eMeth T.C_Peek "pick" 0 (gVar 0) [some 1, none, none] m_Peek_pick (gApp 1 1 (gFz (eVar 2) gNil) (gFz (eC .non) gNil))) (eMeth T.C_Fixed "pick" 0 (gVar 0) [some 1, none, none] (m_Fixed_pick T) (gApp 1 1 (gFz (eVar 2) gNil) (gFz (eC .non) gNil)))))))))
  (sFrz 3 (sFrz 2 (sSetX 4 (eAlt (okM T.C_LeastNode "pick" 0 (gVar 0)) (eMeth T.C_LeastNode "pick" 0 (gVar 0) [some 1, none, none] m_LeastNode_pick (gApp 1 1 (gFz (eVar 2) gNil) (gFz (eVar 3) gNil))) (eAlt (okM T.C_MostLanes "pick" 0 (gVar 0)) (eMeth T.C_MostLanes "pick" 0 (gVar 0) [some 1, none, none] m_MostLanes_pick (gApp 1 1 (gFz (eVar 2) gNil) (gFz (eVar 3) gNil))) (eAlt (okM T.C_ByRow "pick" 0 (gVar 0)) (eMeth T.C_ByRow "pick" 0 (gVar 0) [some 1, none, none] (m_ByRow_pick T) (gApp 1 1 (gFz (eVar 2) gNil) (gFz (eVar 3) gNil))) (eAlt (okM T.C_Peek "pick" 0 (gVar 0)) (eMeth T.C_Peek "pick" 0 (gVar 0) [some 1, none, none] m_Peek_pick (gApp 1 1 (gFz (eVar 2) gNil) (gFz (eVar 3) gNil))) (eMeth T.C_Fixed "pick" 0 (gVar 0) [some 1, none, none] (m_Fixed_pick T) (gApp 1 1 (gFz (eVar 2) gNil) (gFz (eVar 3) gNil))))))))))))
  (sSeq (sIf (tyOr (eTest (eOp gNe (eVar 2) (eIx (eVar 1) (eC (.int 0))))) (tyOr (eTest (eOp gNe (eVar 3) (eIx (eVar 1) (eC (.int 1))))) (tyNot (eTest (eFnF m_law_is_int (aCons (eVar 4) aNil))))))
  (sRetX (eM (own0 (eUn gNeg (eC (.int 9))))))
  sNext)
  (sRetNV 4)))))
noncomputable def m_law_asked (T : Txt P K mg) : FV := fnV [some 1, none] 6 (c_law_asked T)
theorem ok_law_asked (T : Txt P K mg) : FnOk P w K mg base (L2N.CX P w) 4 T.a_law_asked T.fd_law_asked ["_law_policy", "_law_scene_here"] (spV K [some 1, none] (m_law_asked T)) :=
  fn_okV (k := 3) (F := (c_law_asked T)) [some 1, none] 6 rfl rfl T.F_law_asked sc_law_asked fun cdv A outer s H E hr => by
    have hu0 := units_cx (P := P) (w := w) (K := K) (mg := mg) (base := base) (N := ["_law_policy", "_law_scene_here", "_law_handed", "_law_peeked", "_law_told", "_law_seen"]) (outer := outer) (H := H) (E := E) hr
    unfold c_law_asked 
    exact (ss_cons (s_set (i := 2) sc_law_asked.nd rfl (Or.inl rfl) (m_list (by rfl) T.z_list (b_ix (b_var 1) b_int)))
    (ss_cons (s_setLc (own := [("_law_seen", 5)]) (i := 3) rfl sc_law_asked.nd rfl rfl (sw_true rfl rfl rfl (by decide +kernel)) (i_list (b_ix (b_var 1) b_int)) (blkOk_by (N := ["_law_policy", "_law_scene_here", "_law_handed", "_law_peeked", "_law_told", "_law_seen"]) (sc := defScope s_law_asked) (own := [("_law_seen", 5)]) (by decide +kernel)) (tw_name (by decide)) (fun _ _ _ _ _ => (pg_name (i := 5) sc_law_asked.nd rfl (Or.inl rfl))) (fun _ _ _ _ _ => c_nil) (fun _ _ _ _ _ => (b_of_m (m_list (by rfl) T.z_list (b_var 5)))))
    (ss_cons (s_if (t_cmp (op_eqA (units_cx hr)) ok_eq (b_ix (b_var 1) b_int) b_int (nomark _)) (ss_one (s_frz 2 (s_setX (i := 4) sc_law_asked.nd rfl (Or.inl rfl) (x_alt (okM T.C_LeastNode "pick" 0 (gVar 0)) (x_meth 0 T.cl_LeastNode T.M_LeastNode_pick (ok_LeastNode_pick T) takes_cx (hr.mono (by decide)) T.d_LeastNode_pick (fun _ => reps_n) (p_var 0) (ga_fz (b_var 2) ga_nil)) (x_alt (okM T.C_MostLanes "pick" 0 (gVar 0)) (x_meth 0 T.cl_MostLanes T.M_MostLanes_pick (ok_MostLanes_pick T) takes_cx (hr.mono (by decide)) T.d_MostLanes_pick (fun _ => reps_n) (p_var 0) (ga_fz (b_var 2) ga_nil)) (x_alt (okM T.C_ByRow "pick" 0 (gVar 0)) (x_meth 0 T.cl_ByRow T.M_ByRow_pick (ok_ByRow_pick T) takes_cx (hr.mono (by decide)) T.d_ByRow_pick (fun _ => reps_n) (p_var 0) (ga_fz (b_var 2) ga_nil)) (x_alt (okM T.C_Peek "pick" 0 (gVar 0)) (x_meth 0 T.cl_Peek T.M_Peek_pick (ok_Peek_pick T) takes_cx (hr.mono (by decide)) T.d_Peek_pick (fun _ => reps_n) (p_var 0) (ga_fz (b_var 2) ga_nil)) (x_meth 0 T.cl_Fixed T.M_Fixed_pick (ok_Fixed_pick T) takes_cx (hr.mono (by decide)) T.d_Fixed_pick (fun _ => reps_n) (p_var 0) (ga_fz (b_var 2) ga_nil))))))))) (ss_one (s_if (t_cmp (op_eqA (units_cx hr)) ok_eq (b_ix (b_var 1) b_int) b_int (nomark _)) (ss_one (s_frz 2 (s_setX (i := 4) sc_law_asked.nd rfl (Or.inl rfl) (x_alt (okM T.C_LeastNode "pick" 0 (gVar 0)) (x_methK 0 T.cl_LeastNode T.M_LeastNode_pick (ok_LeastNode_pick T) takes_cx (hr.mono (by decide)) T.kb_LeastNode_pick (p_var 0) (ga_fz (b_var 2) ga_nil) (ga_kf b_non ga_kn)) (x_alt (okM T.C_MostLanes "pick" 0 (gVar 0)) (x_methK 0 T.cl_MostLanes T.M_MostLanes_pick (ok_MostLanes_pick T) takes_cx (hr.mono (by decide)) T.kb_MostLanes_pick (p_var 0) (ga_fz (b_var 2) ga_nil) (ga_kf b_non ga_kn)) (x_alt (okM T.C_ByRow "pick" 0 (gVar 0)) (x_methK 0 T.cl_ByRow T.M_ByRow_pick (ok_ByRow_pick T) takes_cx (hr.mono (by decide)) T.kb_ByRow_pick (p_var 0) (ga_fz (b_var 2) ga_nil) (ga_kf b_non ga_kn)) (x_alt (okM T.C_Peek "pick" 0 (gVar 0)) (x_methK 0 T.cl_Peek T.M_Peek_pick (ok_Peek_pick T) takes_cx (hr.mono (by decide)) T.kb_Peek_pick (p_var 0) (ga_fz (b_var 2) ga_nil) (ga_kf b_non ga_kn)) (x_methK 0 T.cl_Fixed T.M_Fixed_pick (ok_Fixed_pick T) takes_cx (hr.mono (by decide)) T.kb_Fixed_pick (p_var 0) (ga_fz (b_var 2) ga_nil) (ga_kf b_non ga_kn))))))))) (ss_one (s_frz 3 (s_frz 2 (s_setX (i := 4) sc_law_asked.nd rfl (Or.inl rfl) (x_alt (okM T.C_LeastNode "pick" 0 (gVar 0)) (x_methK 0 T.cl_LeastNode T.M_LeastNode_pick (ok_LeastNode_pick T) takes_cx (hr.mono (by decide)) T.kb_LeastNode_pick (p_var 0) (ga_fz (b_var 2) ga_nil) (ga_kf (b_var 3) ga_kn)) (x_alt (okM T.C_MostLanes "pick" 0 (gVar 0)) (x_methK 0 T.cl_MostLanes T.M_MostLanes_pick (ok_MostLanes_pick T) takes_cx (hr.mono (by decide)) T.kb_MostLanes_pick (p_var 0) (ga_fz (b_var 2) ga_nil) (ga_kf (b_var 3) ga_kn)) (x_alt (okM T.C_ByRow "pick" 0 (gVar 0)) (x_methK 0 T.cl_ByRow T.M_ByRow_pick (ok_ByRow_pick T) takes_cx (hr.mono (by decide)) T.kb_ByRow_pick (p_var 0) (ga_fz (b_var 2) ga_nil) (ga_kf (b_var 3) ga_kn)) (x_alt (okM T.C_Peek "pick" 0 (gVar 0)) (x_methK 0 T.cl_Peek T.M_Peek_pick (ok_Peek_pick T) takes_cx (hr.mono (by decide)) T.kb_Peek_pick (p_var 0) (ga_fz (b_var 2) ga_nil) (ga_kf (b_var 3) ga_kn)) (x_methK 0 T.cl_Fixed T.M_Fixed_pick (ok_Fixed_pick T) takes_cx (hr.mono (by decide)) T.kb_Fixed_pick (p_var 0) (ga_fz (b_var 2) ga_nil) (ga_kf (b_var 3) ga_kn)))))))))))))
    (ss_cons (s_if (PW.pt (w_or (t_cmp (op_neA (units_cx hr)) ok_ne (b_var 2) (b_ix (b_var 1) b_int) (nomark _)) (w_or (t_cmp (op_neA (units_cx hr)) ok_ne (b_var 3) (b_ix (b_var 1) b_int) (nomark _)) (w_or1 (t_not (t_val (b_callF (ok_law_is_int T) takes_cx (hr.mono (by decide)) (by rfl) T.g_law_is_int T.k_law_is_int T.b_law_is_int (ah_cons (b_var 4) ah_nil)))))))) (ss_one (s_retX (x_of (m_of_b (b_neg b_int))))) ss_nil)
    (ss_one (s_retNV 4))))))
/-! ### ByRow.__init__ -/
theorem sc_ByRow_init : FnScope ["self", "row"] ["self", "row"] (defScope s_ByRow_init) := ⟨rfl, rfl, rfl, by decide +kernel, rfl, by decide +kernel, by decide +kernel⟩
noncomputable def c_ByRow_init (T : Txt P K mg) : SM :=
  (sSeq (sSetFP 0 T.C_ByRow "numbers" (gVar 0) (eList (eVar 1)))
  (sSetFP 0 T.C_ByRow "picks" (gVar 0) (own0 (eC (.int 0)))))
noncomputable def m_ByRow_init (T : Txt P K mg) : FV := fnV [some 1, some 0] 2 (c_ByRow_init T)
theorem ok_ByRow_init (T : Txt P K mg) : FnOk P w K mg base (L2N.CX P w) 1 T.a_ByRow_init T.fd_ByRow_init ["self", "row"] (spV K [some 1, some 0] (m_ByRow_init T)) :=
  fn_okV (k := 0) (F := (c_ByRow_init T)) [some 1, some 0] 2 rfl rfl T.F_ByRow_init sc_ByRow_init fun cdv A outer s H E hr => by
    unfold c_ByRow_init 
    exact (ss_cons (s_setFP T.cl_ByRow T.nf_ByRow_numbers (p_var 0) (m_list (by rfl) T.z_list (b_var 1)))
    (ss_one (s_setFP T.cl_ByRow T.nf_ByRow_picks (p_var 0) (m_of_b b_int))))
/-! ### Fixed.__init__ -/
theorem sc_Fixed_init : FnScope ["self", "row"] ["self", "row"] (defScope s_Fixed_init) := ⟨rfl, rfl, rfl, by decide +kernel, rfl, by decide +kernel, by decide +kernel⟩
noncomputable def c_Fixed_init (T : Txt P K mg) : SM :=
  (sSeq (sSetFP 0 T.C_Fixed "listed" (gVar 0) (own0 (eTupOf (eVar 1))))
  (sSetFP 0 T.C_Fixed "asked" (gVar 0) (own0 (eC (.int 0)))))
noncomputable def m_Fixed_init (T : Txt P K mg) : FV := fnV [some 1, some 0] 2 (c_Fixed_init T)
theorem ok_Fixed_init (T : Txt P K mg) : FnOk P w K mg base (L2N.CX P w) 1 T.a_Fixed_init T.fd_Fixed_init ["self", "row"] (spV K [some 1, some 0] (m_Fixed_init T)) :=
  fn_okV (k := 0) (F := (c_Fixed_init T)) [some 1, some 0] 2 rfl rfl T.F_Fixed_init sc_Fixed_init fun cdv A outer s H E hr => by
    unfold c_Fixed_init 
    exact (ss_cons (s_setFP T.cl_Fixed T.nf_Fixed_listed (p_var 0) (m_of_b (b_tupOf (by rfl) T.z_tuple (b_var 1))))
    (ss_one (s_setFP T.cl_Fixed T.nf_Fixed_asked (p_var 0) (m_of_b b_int))))
/-! ### law -/
theorem sc_law : FnScope ["_law_script", "_law_count", "_law_scenes", "_law_numbers_here", "_law_passed", "_law_first", "_law_second", "_law_k", "_law_scene_here", "_law_ahead", "_law_dues_here", "_law_later", "_law_j", "_law_row"] ["_law_script"] (defScope s_law) := ⟨rfl, rfl, rfl, by decide +kernel, rfl, by decide +kernel, by decide +kernel⟩
noncomputable def c_law_1 (T : Txt P K mg) : SM :=
  (sSeq (sIfX (eCmpX gNe (eLend [some 1, none] (m_law_asked T) (gLn 5 (gIx 5 (gVar 5) (eVar 12)) (gFz (eVar 8) gNil))) (eIx (eVar 10) (eVar 12)))
  (sRet (own0 (eC (.bl false))))
  sNext)
  (sIfX (eCmpX gNe (eLend [some 1, none] (m_law_asked T) (gLn 6 (gIx 6 (gVar 6) (eVar 12)) (gFz (eVar 9) gNil))) (eIx (eVar 11) (eVar 12)))
  (sRet (own0 (eC (.bl false))))
  sNext))
noncomputable def c_law_2 (T : Txt P K mg) : SM :=
  (sSeq (sAsg 8 (own0 (eIx (eVar 2) (eVar 7))))
  (sSeq (sAsg 9 (own0 (eIx (eVar 2) (eOp gMod (eCall gToInt (aCons (eOp gAdd (eVar 7) (eC (.int 1))) aNil)) (eVar 1)))))
  (sSeq (sAsg 10 (eFn m_law_dues (a0Cons (eVar 8) (a0Cons (eIx (eVar 3) (eC (.int 0))) (a0Cons (eVar 7) aNil)))))
  (sSeq (sAsg 11 (eFn m_law_dues (a0Cons (eVar 9) (a0Cons (eIx (eVar 3) (eC (.int 1))) (a0Cons (eVar 7) aNil)))))
  (sFor (iRg1 (aCons (eC (.int 5)) aNil)) (tgName 12) (c_law_1 T))))))
noncomputable def c_law (T : Txt P K mg) : SM :=
  (sSeq (sAsg 1 (own0 (eOp gAdd (eC (.int 1)) (eOp gMod (eCall gToInt (aCons (eIx (frzE (eFn m_law_digits (a0Cons (eFnF m_law_seed (aCons (eVar 0) (aCons (eC (.int 0)) aNil))) (a0Cons (eC (.int 1)) (a0Cons (eC (.int 55440)) aNil))))) (eC (.int 0))) aNil)) (eC (.int 6))))))
  (sSeq (sAsg 2 (eLc [7] (iRg1 (aCons (eVar 1) aNil)) (tgName 7) tcYes (frzE (eFn m_law_scene (a0Cons (eFnF m_law_seed (aCons (eVar 0) (aCons (eOp gAdd (eC (.int 1)) (eVar 7)) aNil))) aNil)))))
  (sSeq (sAsg 3 (eLst (a0Cons (frzE (eFn m_law_numbers (a0Cons (eFnF m_law_seed (aCons (eVar 0) (aCons (eC (.int 7)) aNil))) aNil))) (a0Cons (frzE (eFn m_law_numbers (a0Cons (eFnF m_law_seed (aCons (eVar 0) (aCons (eC (.int 8)) aNil))) aNil))) aNil))))
  (sSeq (sFrz 3 (sAsg 4 (eLcN 1 [13] (iSeq (eVar 3)) (tgName 13) tcYes (eList (eVar 13)))))
  (sSeq (sSetX 5 (eLstX 2 (xcons (eM (eMk0 T.C_LeastNode 1)) (xcons (eM (eMk0 T.C_MostLanes 1)) (xcons (eMake T.C_ByRow 1 [some 0] (m_ByRow_init T) (gDef [] (gLn 4 (gIx 4 (gVar 4) (eC (.int 0))) gNil))) (xcons (eM (eMk0 T.C_Peek 1)) (xcons (eMake T.C_Fixed 1 [some 0] (m_Fixed_init T) (gDef [] (gLn 4 (gIx 4 (gVar 4) (eC (.int 0))) gNil))) xnil)))))))
  (sSeq (sSetX 6 (eLstX 2 (xcons (eM (eMk0 T.C_LeastNode 1)) (xcons (eM (eMk0 T.C_MostLanes 1)) (xcons (eMake T.C_ByRow 1 [some 0] (m_ByRow_init T) (gDef [] (gLn 4 (gIx 4 (gVar 4) (eC (.int 1))) gNil))) (xcons (eM (eMk0 T.C_Peek 1)) (xcons (eMake T.C_Fixed 1 [some 0] (m_Fixed_init T) (gDef [] (gLn 4 (gIx 4 (gVar 4) (eC (.int 1))) gNil))) xnil)))))))
  (sSeq (sIf (eTest (eOp gNe (eVar 4) (eVar 3)))
  (sRet (own0 (eC (.bl false))))
  sNext)
  (sSeq (sInsP 4 (gIx 4 (gVar 4) (eC (.int 0))) (own0 (eC (.int 5))))
  (sSeq (sInsP 4 (gIx 4 (gVar 4) (eC (.int 1))) (own0 (eC (.int 3))))
  (sSeq (sFor (iRg1 (aCons (eVar 1) aNil)) (tgName 7) (c_law_2 T))
  (sRet (own0 (eC (.bl true))))))))))))))
noncomputable def m_law (T : Txt P K mg) : FM := fnM 1 14 (c_law T)
theorem ok_law (T : Txt P K mg) : FnOk P w K mg base (L2N.CX P w) 5 T.a_law T.fd_law ["_law_script"] (spM K (m_law T)) :=
  fn_okM (k := 4) (F := (c_law T)) 1 14 rfl rfl T.F_law sc_law fun cdv A outer s H E hr => by
    have hu0 := units_cx (P := P) (w := w) (K := K) (mg := mg) (base := base) (N := ["_law_script", "_law_count", "_law_scenes", "_law_numbers_here", "_law_passed", "_law_first", "_law_second", "_law_k", "_law_scene_here", "_law_ahead", "_law_dues_here", "_law_later", "_law_j", "_law_row"]) (outer := outer) (H := H) (E := E) hr
    unfold c_law c_law_2 c_law_1
    exact (ss_cons (s_set (i := 1) sc_law.nd rfl (Or.inl rfl) (m_of_b (b_add b_int (b_mod (b_toInt (by rfl) T.z_int (ah_cons (b_ix (b_of_m (m_call (ok_law_digits T) takes_cx (hr.mono (by decide)) (by rfl) T.g_law_digits T.k_law_digits T.b_law_digits (a_cons (b_callF (ok_law_seed T) takes_cx (hr.mono (by decide)) (by rfl) T.g_law_seed T.k_law_seed T.b_law_seed (ah_cons (b_var 0) (ah_cons b_int ah_nil))) (a_cons b_int (a_cons b_int a_nil))))) b_int) ah_nil)) b_int))))
    (ss_cons (s_setLc (own := [("_law_k", 7)]) (i := 2) rfl sc_law.nd rfl rfl (sw_true rfl rfl rfl (by decide +kernel)) (i_range1 (by rfl) T.z_range (ah_cons (b_var 1) ah_nil)) (blkOk_by (N := ["_law_script", "_law_count", "_law_scenes", "_law_numbers_here", "_law_passed", "_law_first", "_law_second", "_law_k", "_law_scene_here", "_law_ahead", "_law_dues_here", "_law_later", "_law_j", "_law_row"]) (sc := defScope s_law) (own := [("_law_k", 7)]) (by decide +kernel)) (tw_name (by decide)) (fun _ _ _ _ _ => (pg_name (i := 7) sc_law.nd rfl (Or.inl rfl))) (fun _ _ _ _ _ => c_nil) (fun _ _ _ _ _ => (b_of_m (m_call (ok_law_scene T) takesN0 (hr.mono (by decide)) (by rfl) T.g_law_scene T.k_law_scene T.b_law_scene (a_cons (b_callF (ok_law_seed T) takesN0 (hr.mono (by decide)) (by rfl) T.g_law_seed T.k_law_seed T.b_law_seed (ah_cons (b_var 0) (ah_cons (b_add b_int (b_var 7)) ah_nil))) a_nil)))))
    (ss_cons (s_set (i := 3) sc_law.nd rfl (Or.inl rfl) (m_lst (a_cons (b_of_m (m_call (ok_law_numbers T) takes_cx (hr.mono (by decide)) (by rfl) T.g_law_numbers T.k_law_numbers T.b_law_numbers (a_cons (b_callF (ok_law_seed T) takes_cx (hr.mono (by decide)) (by rfl) T.g_law_seed T.k_law_seed T.b_law_seed (ah_cons (b_var 0) (ah_cons b_int ah_nil))) a_nil))) (a_cons (b_of_m (m_call (ok_law_numbers T) takes_cx (hr.mono (by decide)) (by rfl) T.g_law_numbers T.k_law_numbers T.b_law_numbers (a_cons (b_callF (ok_law_seed T) takes_cx (hr.mono (by decide)) (by rfl) T.g_law_seed T.k_law_seed T.b_law_seed (ah_cons (b_var 0) (ah_cons b_int ah_nil))) a_nil))) a_nil))))
    (ss_cons (s_frz 3 (s_setLcN (n := 1) (own := [("_law_row", 13)]) (i := 4) rfl sc_law.nd rfl rfl (sw_true rfl rfl rfl (by decide +kernel)) (i_list (b_var 3)) (blkOk_by (N := ["_law_script", "_law_count", "_law_scenes", "_law_numbers_here", "_law_passed", "_law_first", "_law_second", "_law_k", "_law_scene_here", "_law_ahead", "_law_dues_here", "_law_later", "_law_j", "_law_row"]) (sc := defScope s_law) (own := [("_law_row", 13)]) (by decide +kernel)) (tw_name (by decide)) (fun _ _ _ _ _ => (pg_name (i := 13) sc_law.nd rfl (Or.inl rfl))) (fun _ _ _ _ _ => c_nil) (fun _ _ _ _ _ => (m_list (by rfl) T.z_list (b_var 13)))))
    (ss_cons (s_setX (i := 5) sc_law.nd rfl (Or.inl rfl) (x_lst (n := 2) (xs_cons (x_of (m_mk0 T.mk0_LeastNode (by rfl) T.g_LeastNode)) (xs_cons (x_of (m_mk0 T.mk0_MostLanes (by rfl) T.g_MostLanes)) (xs_cons (x_make T.mk_ByRow (ok_ByRow_init T) takes_cx (hr.mono (by decide)) (by rfl) T.g_ByRow ⟨[], .nil, T.b_ByRow_init⟩ (fun _ => reps_nil) (ga_ln 4 (p_ix (p_var 4) b_int) ga_nil)) (xs_cons (x_of (m_mk0 T.mk0_Peek (by rfl) T.g_Peek)) (xs_cons (x_make T.mk_Fixed (ok_Fixed_init T) takes_cx (hr.mono (by decide)) (by rfl) T.g_Fixed ⟨[], .nil, T.b_Fixed_init⟩ (fun _ => reps_nil) (ga_ln 4 (p_ix (p_var 4) b_int) ga_nil)) xs_nil)))))))
    (ss_cons (s_setX (i := 6) sc_law.nd rfl (Or.inl rfl) (x_lst (n := 2) (xs_cons (x_of (m_mk0 T.mk0_LeastNode (by rfl) T.g_LeastNode)) (xs_cons (x_of (m_mk0 T.mk0_MostLanes (by rfl) T.g_MostLanes)) (xs_cons (x_make T.mk_ByRow (ok_ByRow_init T) takes_cx (hr.mono (by decide)) (by rfl) T.g_ByRow ⟨[], .nil, T.b_ByRow_init⟩ (fun _ => reps_nil) (ga_ln 4 (p_ix (p_var 4) b_int) ga_nil)) (xs_cons (x_of (m_mk0 T.mk0_Peek (by rfl) T.g_Peek)) (xs_cons (x_make T.mk_Fixed (ok_Fixed_init T) takes_cx (hr.mono (by decide)) (by rfl) T.g_Fixed ⟨[], .nil, T.b_Fixed_init⟩ (fun _ => reps_nil) (ga_ln 4 (p_ix (p_var 4) b_int) ga_nil)) xs_nil)))))))
    (ss_cons (s_if (t_cmp (op_neA (units_cx hr)) ok_ne (b_var 4) (b_var 3) (nomark _)) (ss_one (s_ret (m_of_b b_bl))) ss_nil)
    (ss_cons (s_insP (p_ix (p_var 4) b_int) (m_of_b b_int))
    (ss_cons (s_insP (p_ix (p_var 4) b_int) (m_of_b b_int))
    (ss_cons (s_for passes_cx rfl (i_range1 (by rfl) T.z_range (ah_cons (b_var 1) ah_nil)) (pg_name (i := 7) sc_law.nd rfl (Or.inl rfl)) tg_name (ss_cons (s_set (i := 8) sc_law.nd rfl (Or.inl rfl) (m_of_b (b_ix (b_var 2) (b_var 7))))
    (ss_cons (s_set (i := 9) sc_law.nd rfl (Or.inl rfl) (m_of_b (b_ix (b_var 2) (b_mod (b_toInt (by rfl) T.z_int (ah_cons (b_add (b_var 7) b_int) ah_nil)) (b_var 1)))))
    (ss_cons (s_set (i := 10) sc_law.nd rfl (Or.inl rfl) (m_call (ok_law_dues T) takes_cx (hr.mono (by decide)) (by rfl) T.g_law_dues T.k_law_dues T.b_law_dues (a_cons (b_var 8) (a_cons (b_ix (b_var 3) b_int) (a_cons (b_var 7) a_nil)))))
    (ss_cons (s_set (i := 11) sc_law.nd rfl (Or.inl rfl) (m_call (ok_law_dues T) takes_cx (hr.mono (by decide)) (by rfl) T.g_law_dues T.k_law_dues T.b_law_dues (a_cons (b_var 9) (a_cons (b_ix (b_var 3) b_int) (a_cons (b_var 7) a_nil)))))
    (ss_one (s_for passes_cx rfl (i_range1 (by rfl) T.z_range (ah_cons b_int ah_nil)) (pg_name (i := 12) sc_law.nd rfl (Or.inl rfl)) tg_name (ss_cons (s_ifX (xt_cmp (op_neA (units_cx hr)) ok_ne (x_call (ok_law_asked T) takes_cx (hr.mono (by decide)) (by rfl) T.g_law_asked T.k_law_asked T.b_law_asked (ga_ln 5 (p_ix (p_var 5) (b_var 12)) (ga_fz (b_var 8) ga_nil))) (b_ix (b_var 10) (b_var 12)) (nomark _)) (ss_one (s_ret (m_of_b b_bl))) ss_nil)
    (ss_one (s_ifX (xt_cmp (op_neA (units_cx hr)) ok_ne (x_call (ok_law_asked T) takes_cx (hr.mono (by decide)) (by rfl) T.g_law_asked T.k_law_asked T.b_law_asked (ga_ln 6 (p_ix (p_var 6) (b_var 12)) (ga_fz (b_var 9) ga_nil))) (b_ix (b_var 11) (b_var 12)) (nomark _)) (ss_one (s_ret (m_of_b b_bl))) ss_nil))))))))))
    (ss_one (s_ret (m_of_b b_bl)))))))))))))
end
end K14
namespace K14
open PySem L2 Mv Ty Sh
section
variable {P : Program} {K : PySem.W.Frag} {mg : Str → Option Value}
abbrev O_LeastNode := Unit
abbrev flds_LeastNode (o : O_LeastNode) : List (Str × D) := []
abbrev enc_LeastNode (T : Txt P K mg) (o : O_LeastNode) : D := .ob T.C_LeastNode (flds_LeastNode o)
theorem no_LeastNode_pick {o : O_LeastNode} : (flds_LeastNode o).lookup ("pick" : Str) = none := by rfl
abbrev O_MostLanes := Unit
abbrev flds_MostLanes (o : O_MostLanes) : List (Str × D) := []
abbrev enc_MostLanes (T : Txt P K mg) (o : O_MostLanes) : D := .ob T.C_MostLanes (flds_MostLanes o)
theorem no_MostLanes_pick {o : O_MostLanes} : (flds_MostLanes o).lookup ("pick" : Str) = none := by rfl
abbrev O_ByRow := List Int × Int
abbrev flds_ByRow (o : O_ByRow) : List (Str × D) := [("numbers", (eL D.int) o.1), ("picks", D.int o.2)]
abbrev enc_ByRow (T : Txt P K mg) (o : O_ByRow) : D := .ob T.C_ByRow (flds_ByRow o)
theorem lk_ByRow_numbers {o : O_ByRow} : (flds_ByRow o).lookup ("numbers" : Str) = some ((eL D.int) o.1) := by rfl
theorem lk_ByRow_picks {o : O_ByRow} : (flds_ByRow o).lookup ("picks" : Str) = some (D.int o.2) := by rfl
theorem no_ByRow_pick {o : O_ByRow} : (flds_ByRow o).lookup ("pick" : Str) = none := by rfl
abbrev O_Peek := Unit
abbrev flds_Peek (o : O_Peek) : List (Str × D) := []
abbrev enc_Peek (T : Txt P K mg) (o : O_Peek) : D := .ob T.C_Peek (flds_Peek o)
theorem no_Peek_pick {o : O_Peek} : (flds_Peek o).lookup ("pick" : Str) = none := by rfl
abbrev O_Fixed := List Int × Int
abbrev flds_Fixed (o : O_Fixed) : List (Str × D) := [("listed", (eT D.int) o.1), ("asked", D.int o.2)]
abbrev enc_Fixed (T : Txt P K mg) (o : O_Fixed) : D := .ob T.C_Fixed (flds_Fixed o)
theorem lk_Fixed_listed {o : O_Fixed} : (flds_Fixed o).lookup ("listed" : Str) = some ((eT D.int) o.1) := by rfl
theorem lk_Fixed_asked {o : O_Fixed} : (flds_Fixed o).lookup ("asked" : Str) = some (D.int o.2) := by rfl
theorem no_Fixed_pick {o : O_Fixed} : (flds_Fixed o).lookup ("pick" : Str) = none := by rfl
inductive O_Pol where
  | LeastNode (o : O_LeastNode) | MostLanes (o : O_MostLanes) | ByRow (o : O_ByRow) | Peek (o : O_Peek) | Fixed (o : O_Fixed)
abbrev enc_Pol (T : Txt P K mg) (p : O_Pol) : D := match p with
  | .LeastNode o => enc_LeastNode T o
  | .MostLanes o => enc_MostLanes T o
  | .ByRow o => enc_ByRow T o
  | .Peek o => enc_Peek T o
  | .Fixed o => enc_Fixed T o
theorem isL_Pol {T : Txt P K mg} {p q : O_Pol} : isL (enc_Pol T p) = isL (enc_Pol T q) := by cases p <;> cases q <;> rfl
/-! ### distinct -/
noncomputable def p_distinct (row : List Int) : Res (List Int) := oRes (
  oN (distR row) fun v =>
  .rt v)
theorem t_distinct (row : List Int) : Sr 1 (eL D.int) (m_distinct [(eL D.int) row]) (p_distinct row) := by
  unfold m_distinct p_distinct
  exact fn_Sr (n := 1) (enc := (eL D.int)) (E := fun _ _ => True) (EK := fun _ _ => False) (EX := fun _ => True) [.v 0 ((eL D.int) row)] rfl rfl (sm_one
(sm_N fun v h_v =>
(sm_ret (enc := (eL D.int)) (r := v) (dist_o (var_ok rfl) h_v))))
/-! ### occupied -/
noncomputable def p_occupied (standing : List Int) : Res (List Int) := oRes (
  oN (lcR standing (fun (node : Int) => (.ok (!decide (node = (-1))))) (fun (node : Int) => (.ok node))) fun lst =>
  oN (p_distinct lst) fun distinct =>
  .rt distinct)
theorem t_occupied (standing : List Int) : Sr 1 (eL D.int) (m_occupied [(eL D.int) standing]) (p_occupied standing) := by
  unfold m_occupied p_occupied
  exact fn_Sr (n := 1) (enc := (eL D.int)) (E := fun _ _ => True) (EK := fun _ _ => False) (EX := fun _ => True) [.v 0 ((eL D.int) standing), .un] rfl rfl (sm_one
(sm_frz [.v 0 ((eL D.int) standing), .un] rfl rfl
(sm_N fun lst h_lst =>
(sm_N fun distinct h_distinct =>
(sm_ret (enc := (eL D.int)) (r := distinct) (fn_o (a0_ok (frz_ok (lc_o (enc := D.int) (enc2 := D.int) (it_l (var_ok rfl)) (fun node => ⟨[.v 0 ((eL D.int) standing), .v 0 (D.int node)], rfl, (st_ok (a := (!decide (node = (-1)))) (test_ok (ev_ne (var_ok rfl) c_ok))), (se_ok (enc := D.int) (a := node) (var_ok rfl))⟩) h_lst)) ev_nil) ((t_distinct lst).ok h_distinct)))))))
/-! ### law_cell -/
theorem t_law_cell (script : List Int) (k : Int) : Sr 0 D.int (m_law_cell [(eR D.int) script, D.int k]) (p_law_cell script k) := by
  unfold m_law_cell p_law_cell
  exact fn_Sr (n := 0) (enc := D.int) (E := fun _ _ => True) (EK := fun _ _ => False) (EX := fun _ => True) [.v 0 ((eR D.int) script), .v 0 (D.int k)] rfl rfl (sm_one
(sm_assoc (sm_if (test_ok (lt_ok (var_ok rfl) (len_r (var_ok rfl)))) (fun _ =>
(sm_N fun at0 h_at0 =>
(sm_ret (enc := D.int) (r := (absI at0)) (own0_ok (abs_o (ix_r (enc := D.int) (xs := script) (var_ok rfl) (var_ok rfl) h_at0)))))) (fun _ =>
(sm_no (sm_ret (enc := D.int) (r := 0) (own0_ok c_ok)))))))
/-! ### law_digits -/
theorem t_law_digits (cell : Int) (count : Int) (size : Int) : Sr 1 (eL D.int) (m_law_digits [D.int cell, D.int count, D.int size]) (p_law_digits cell count size) := by
  unfold m_law_digits p_law_digits
  exact fn_Sr (n := 1) (enc := (eL D.int)) (E := fun _ _ => True) (EK := fun _ _ => False) (EX := fun _ => True) [.v 0 (D.int cell), .v 0 (D.int count), .v 0 (D.int size), .un, .un, .un, .un] rfl rfl (sm_one
(sm_assoc (sm_asg [.v 0 (D.int cell), .v 0 (D.int count), .v 0 (D.int size), .v 1 ((eL D.int) []), .un, .un, .un] (lst_o (enc := D.int) a_nil') rfl
(sm_assoc (sm_asg [.v 0 (D.int cell), .v 0 (D.int count), .v 0 (D.int size), .v 1 ((eL D.int) []), .v 0 (D.int cell), .un, .un] (own0_ok (var_ok rfl)) rfl
(sm_assoc (sm_N fun rng h_rng =>
(sm_for (IV := (fun (s : List Int × Int) (ss : En) => ∃ jx0 : Sl, ∃ jx1 : Sl, ss = [.v 0 (D.int cell), .v 0 (D.int count), .v 0 (D.int size), .v 1 ((eL D.int) s.1), .v 0 (D.int s.2), jx0, jx1])) (enc := D.int) rets_rt (it_1 (var_ok rfl) h_rng) ⟨_, _, rfl⟩ (by
 rintro k ⟨row, rest0⟩ _ ⟨j, j1, rfl⟩
 exact (sm_step [.v 0 (D.int cell), .v 0 (D.int count), .v 0 (D.int size), .v 1 ((eL D.int) row), .v 0 (D.int rest0), .v 0 (D.int k), j1] rfl (sm_one (sm_if (tand_ok (test_ok (ge_ok (var_ok rfl) (pow_l (a := 10) (e := 18)))) (test_ok (gt_ok (var_ok rfl) c_ok))) (fun _ =>
(sm_assoc (sm_N fun mod0 h_mod0 =>
(sm_N fun row1 h_row1 =>
(sm_st (app_s (enc := D.int) (xs := row) (v := mod0) (ys := row1) [.v 0 (D.int cell), .v 0 (D.int count), .v 0 (D.int size), .v 1 ((eL D.int) row1), .v 0 (D.int rest0), .v 0 (D.int k), j1] (own0_ok (mod_r (toi_o (var_ok rfl)) (var_ok rfl) h_mod0)) rfl h_row1 rfl)
(sm_N fun div h_div =>
(sm_asg [.v 0 (D.int cell), .v 0 (D.int count), .v 0 (D.int size), .v 1 ((eL D.int) row1), .v 0 (D.int div), .v 0 (D.int k), j1] (own0_ok (div_r (var_ok rfl) (var_ok rfl) h_div)) rfl
(sm_end ⟨_, _, rfl⟩)))))))) (fun _ =>
(sm_assoc (sm_N fun prod h_prod =>
(sm_lt fun mixed h_mixed =>
(sm_asg [.v 0 (D.int cell), .v 0 (D.int count), .v 0 (D.int size), .v 1 ((eL D.int) row), .v 0 (D.int rest0), .v 0 (D.int k), .v 0 (D.int mixed)] (tr (enc := D.int) (own0_ok (mod_l (toi_o (add_ok (add_ok (var_ok rfl) (mul_r c_ok (var_ok rfl) h_prod)) c_ok)) c_ok)) h_mixed) rfl
(sm_assoc (sm_N fun prod1 h_prod1 =>
(sm_lt fun mixed1 h_mixed1 =>
(sm_asg [.v 0 (D.int cell), .v 0 (D.int count), .v 0 (D.int size), .v 1 ((eL D.int) row), .v 0 (D.int rest0), .v 0 (D.int k), .v 0 (D.int mixed1)] (tr (enc := D.int) (own0_ok (mod_l (toi_o (mul_r (var_ok rfl) (add_ok (var_ok rfl) c_ok) h_prod1)) c_ok)) h_mixed1) rfl
(sm_assoc (sm_N fun prod2 h_prod2 =>
(sm_N fun prod3 h_prod3 =>
(sm_lt fun mixed2 h_mixed2 =>
(sm_asg [.v 0 (D.int cell), .v 0 (D.int count), .v 0 (D.int size), .v 1 ((eL D.int) row), .v 0 (D.int rest0), .v 0 (D.int k), .v 0 (D.int mixed2)] (tr (enc := D.int) (own0_ok (mod_l (toi_o (add_ok (mul_r (var_ok rfl) (add_ok (var_ok rfl) c_ok) h_prod2) (mul_r c_ok (var_ok rfl) h_prod3))) c_ok)) h_mixed2) rfl
(sm_N fun mod1 h_mod1 =>
(sm_N fun row2 h_row2 =>
(sm_st (app_s (enc := D.int) (xs := row) (v := mod1) (ys := row2) [.v 0 (D.int cell), .v 0 (D.int count), .v 0 (D.int size), .v 1 ((eL D.int) row2), .v 0 (D.int rest0), .v 0 (D.int k), .v 0 (D.int mixed2)] (own0_ok (mod_r (toi_o (div_l (var_ok rfl) c_ok)) (var_ok rfl) h_mod1)) rfl h_row2 rfl)
(sm_end ⟨_, _, rfl⟩))))))))))))))))))))))  (by
 rintro ⟨row3, rest1⟩ _ ⟨j2, j3, rfl⟩
 exact ((sm_retV rfl)))))))))))
/-! ### law_seed -/
theorem t_law_seed (script : List Int) (k : Int) : Sr 0 D.int (m_law_seed [(eR D.int) script, D.int k]) (p_law_seed script k) := by
  unfold m_law_seed p_law_seed
  exact fn_Sr (n := 0) (enc := D.int) (E := fun _ _ => True) (EK := fun _ _ => False) (EX := fun _ => True) [.v 0 ((eR D.int) script), .v 0 (D.int k)] rfl rfl (sm_one
(sm_assoc (sm_if (test_ok (lt_ok (var_ok rfl) (len_r (var_ok rfl)))) (fun _ =>
(sm_N fun at0 h_at0 =>
(sm_ret (enc := D.int) (r := (absI at0)) (own0_ok (abs_o (ix_r (enc := D.int) (xs := script) (var_ok rfl) (var_ok rfl) h_at0)))))) (fun _ =>
(sm_no (sm_N fun law_cell h_law_cell =>
(sm_N fun prod h_prod =>
(sm_N fun law_digits h_law_digits =>
(sm_N fun at1 h_at1 =>
(sm_ret (enc := D.int) (r := at1) (own0_ok (ix_l (enc := D.int) (xs := law_digits) (frz_ok (fn_o (a0_ok (add_ok (add_ok (fnF_o (aC_ok (var_ok rfl) (aC_ok c_ok ev_nil)) ((t_law_cell script 0).ok h_law_cell)) (mul_r c_ok (var_ok rfl) h_prod)) c_ok) (a0_ok c_ok (a0_ok (pow_l (a := 10) (e := 9)) ev_nil))) ((t_law_digits ((law_cell + prod) + 7) 1 (10 ^ 9)).ok h_law_digits))) c_ok h_at1))))))))))))
/-! ### law_is_int -/
theorem t_law_is_int (value : Int) : Sr 0 D.bl (m_law_is_int [D.int value]) (p_law_is_int value) := by
  unfold m_law_is_int p_law_is_int
  exact fn_Sr (n := 0) (enc := D.bl) (E := fun _ _ => True) (EK := fun _ _ => False) (EX := fun _ => True) [.v 0 (D.int value)] rfl rfl (sm_one
(sm_ret (enc := D.bl) (r := (true && (!false))) (own0_ok (and_ok0 (isi_k (var_ok rfl) (show gIsi "int" (D.int value) = some (.bl true) by simp [gIsi, kindOf, isKind, tyNames])) (not_ok (isi_k (var_ok rfl) (show gIsi "bool" (D.int value) = some (.bl false) by simp [gIsi, kindOf, isKind, tyNames])))))))
/-! ### law_standing -/
noncomputable def p_law_standing (row : List Int) (count : Int) (many : Int) : Res (List Int) := oRes (
  oN (ixR row 1) fun at0 =>
  oN (modR (at0 / 4) count) fun mod0 =>
  oN (rngR count) fun rng =>
  oB (oFor (fun (k : Int) => fun (standing : List Int) =>
      oN (ixR row (2 + k)) fun digit =>
      if ((decide ((digit % 7) = 3)) && (!decide (k = mod0))) = true then
      (oN (appR standing (-1)) fun standing1 =>
        .nx standing1)
      else
      (oN (andR (.ok (decide ((digit % 7) = 5))) (bN (andR (.ok (decide (0 < k))) (bN (ixR standing (k - 1)) fun at1 => .ok (decide (0 ≤ at1)))) fun both => .ok both)) fun both1 =>
        if both1 = true then
        (oN (ixR standing (k - 1)) fun at2 =>
          oN (appR standing at2) fun standing2 =>
          .nx standing2)
        else
        (oN (modR (digit / 7) many) fun mod1 =>
          oN (appR standing mod1) fun standing3 =>
          .nx standing3))) rng [])
  (fun (standing4 : List Int) =>
    .rt standing4))
theorem t_law_standing (row : List Int) (count : Int) (many : Int) : Sr 1 (eL D.int) (m_law_standing [(eL D.int) row, D.int count, D.int many]) (p_law_standing row count many) := by
  unfold m_law_standing p_law_standing
  exact fn_Sr (n := 1) (enc := (eL D.int)) (E := fun _ _ => True) (EK := fun _ _ => False) (EX := fun _ => True) [.v 0 ((eL D.int) row), .v 0 (D.int count), .v 0 (D.int many), .un, .un, .un, .un] rfl rfl (sm_one
(sm_assoc (sm_N fun at0 h_at0 =>
(sm_N fun mod0 h_mod0 =>
(sm_asg [.v 0 ((eL D.int) row), .v 0 (D.int count), .v 0 (D.int many), .v 0 (D.int mod0), .un, .un, .un] (own0_ok (mod_r (toi_o (div_l (ix_l (enc := D.int) (xs := row) (var_ok rfl) c_ok h_at0) c_ok)) (var_ok rfl) h_mod0)) rfl
(sm_assoc (sm_asg [.v 0 ((eL D.int) row), .v 0 (D.int count), .v 0 (D.int many), .v 0 (D.int mod0), .v 1 ((eL D.int) []), .un, .un] (lst_o (enc := D.int) a_nil') rfl
(sm_assoc (sm_N fun rng h_rng =>
(sm_for (IV := (fun (s : List Int) (ss : En) => ∃ jx0 : Sl, ∃ jx1 : Sl, ss = [.v 0 ((eL D.int) row), .v 0 (D.int count), .v 0 (D.int many), .v 0 (D.int mod0), .v 1 ((eL D.int) s), jx0, jx1])) (enc := D.int) rets_rt (it_1 (var_ok rfl) h_rng) ⟨_, _, rfl⟩ (by
 rintro k standing _ ⟨j, j1, rfl⟩
 exact (sm_step [.v 0 ((eL D.int) row), .v 0 (D.int count), .v 0 (D.int many), .v 0 (D.int mod0), .v 1 ((eL D.int) standing), .v 0 (D.int k), j1] rfl (sm_one (sm_assoc (sm_N fun digit h_digit =>
(sm_asg [.v 0 ((eL D.int) row), .v 0 (D.int count), .v 0 (D.int many), .v 0 (D.int mod0), .v 1 ((eL D.int) standing), .v 0 (D.int k), .v 0 (D.int digit)] (own0_ok (ix_l (enc := D.int) (xs := row) (var_ok rfl) (add_ok c_ok (var_ok rfl)) h_digit)) rfl
(sm_if (tand_ok (test_ok (eq_ok (mod_l (toi_o (var_ok rfl)) c_ok) c_ok)) (test_ok (ev_ne (var_ok rfl) (var_ok rfl)))) (fun _ =>
(sm_N fun standing1 h_standing1 =>
(sm_st (app_s (enc := D.int) (xs := standing) (v := (-1)) (ys := standing1) [.v 0 ((eL D.int) row), .v 0 (D.int count), .v 0 (D.int many), .v 0 (D.int mod0), .v 1 ((eL D.int) standing1), .v 0 (D.int k), .v 0 (D.int digit)] (own0_ok (neg_o c_ok)) rfl h_standing1 rfl)
(sm_end ⟨_, _, rfl⟩)))) (fun _ =>
(sm_N fun both1 h_both1 =>
(sm_if ((st_and (st_ok (a := (decide ((digit % 7) = 5))) (test_ok (eq_ok (mod_l (toi_o (var_ok rfl)) c_ok) c_ok))) (st_bN fun both h_both => (st_ok (a := both) ((st_and (st_ok (a := (decide (0 < k))) (test_ok (gt_ok (var_ok rfl) c_ok))) (st_bN fun at1 h_at1 => (st_ok (a := (decide (0 ≤ at1))) (test_ok (ge_ok (ix_l (enc := D.int) (xs := standing) (var_ok rfl) (sub_ok (var_ok rfl) c_ok) h_at1) c_ok))))).ok h_both)))).ok h_both1) (fun _ =>
(sm_N fun at2 h_at2 =>
(sm_N fun standing2 h_standing2 =>
(sm_st (app_s (enc := D.int) (xs := standing) (v := at2) (ys := standing2) [.v 0 ((eL D.int) row), .v 0 (D.int count), .v 0 (D.int many), .v 0 (D.int mod0), .v 1 ((eL D.int) standing2), .v 0 (D.int k), .v 0 (D.int digit)] (own0_ok (ix_l (enc := D.int) (xs := standing) (var_ok rfl) (sub_ok (var_ok rfl) c_ok) h_at2)) rfl h_standing2 rfl)
(sm_end ⟨_, _, rfl⟩))))) (fun _ =>
(sm_N fun mod1 h_mod1 =>
(sm_N fun standing3 h_standing3 =>
(sm_st (app_s (enc := D.int) (xs := standing) (v := mod1) (ys := standing3) [.v 0 ((eL D.int) row), .v 0 (D.int count), .v 0 (D.int many), .v 0 (D.int mod0), .v 1 ((eL D.int) standing3), .v 0 (D.int k), .v 0 (D.int digit)] (own0_ok (mod_r (toi_o (div_l (var_ok rfl) c_ok)) (var_ok rfl) h_mod1)) rfl h_standing3 rfl)
(sm_end ⟨_, _, rfl⟩)))))))))))))))  (by
 rintro standing4 _ ⟨j2, j3, rfl⟩
 exact ((sm_retV rfl)))))))))))))
/-! ### law_spots -/
noncomputable def p_law_spots (standing : List Int) : Res (List Int) := oRes (
  oN (lcR standing (fun (place : Int) => (.ok (decide (0 ≤ place)))) (fun (place : Int) => (.ok place))) fun lst =>
  oN (distR lst) fun v =>
  .rt v)
theorem t_law_spots (standing : List Int) : Sr 1 (eL D.int) (m_law_spots [(eL D.int) standing]) (p_law_spots standing) := by
  unfold m_law_spots p_law_spots
  exact fn_Sr (n := 1) (enc := (eL D.int)) (E := fun _ _ => True) (EK := fun _ _ => False) (EX := fun _ => True) [.v 0 ((eL D.int) standing), .un] rfl rfl (sm_one
(sm_frz [.v 0 ((eL D.int) standing), .un] rfl rfl
(sm_N fun lst h_lst =>
(sm_N fun v h_v =>
(sm_ret (enc := (eL D.int)) (r := v) (dist_o (frz_ok (lc_o (enc := D.int) (enc2 := D.int) (it_l (var_ok rfl)) (fun place => ⟨[.v 0 ((eL D.int) standing), .v 0 (D.int place)], rfl, (st_ok (a := (decide (0 ≤ place))) (test_ok (ge_ok (var_ok rfl) c_ok))), (se_ok (enc := D.int) (a := place) (var_ok rfl))⟩) h_lst)) h_v))))))
/-! ### law_scene -/
noncomputable def p_law_scene (cell : Int) : Res (List Int × List (List Int) × Int) := oRes (
  oN (p_law_digits cell 50 55440) fun row =>
  oN (ixR row 0) fun at0 =>
  lt ((1 + (at0 % 6))) fun count =>
  oN (ixR row 0) fun at1 =>
  oB (if (decide (((at1 / 6) % 8) = 5)) = true then
    (oN (ixR row 0) fun at2 =>
      lt ((7 + ((at2 / 48) % 18))) fun count1 =>
      .nx count1)
    else
    (.nx count))
  (fun (count2 : Int) =>
    oN (ixR row 1) fun at3 =>
    oN (ixR [2, 4, 10, 200] (at3 % 4)) fun at4 =>
    oN (p_law_standing row count2 at4) fun standing =>
    oN (p_law_spots standing) fun places =>
    oN (rngR count2) fun rng =>
    oB (oFor (fun (k : Int) => fun (ahead : List (List Int)) =>
        oN (ixR row (26 + k)) fun digit =>
        oN (rngR (digit % 4)) fun rng1 =>
        oB (oFor (fun (j7 : Int) => fun (seen : List Int) =>
            oN (ixR [4, 96, 2304] j7) fun at5 =>
            oN (divR digit at5) fun div =>
            oN (modR div (places.length : Int)) fun mod0 =>
            oN (ixR places mod0) fun at6 =>
            oN (ixR [0, 0, 0, 1] ((div / 6) % 4)) fun at7 =>
            oN (appR seen (min2 199 (at6 + at7))) fun seen1 =>
            .nx seen1) rng1 [])
        (fun (seen2 : List Int) =>
          oN (ixR standing k) fun at8 =>
          oB (if (decide (at8 < 0)) = true then
            (.nx [])
            else
            (.nx seen2))
          (fun (seen3 : List Int) =>
            oN (appR ahead seen3) fun ahead1 =>
            .nx ahead1))) rng [])
    (fun (ahead2 : List (List Int)) =>
      oN (ixR row 1) fun at9 =>
      .rt (standing, ahead2, ((at9 / 100) % 4)))))
theorem t_law_scene (cell : Int) : Sr 0 (eP3 (eL D.int) (eL (eL D.int)) D.int) (m_law_scene [D.int cell]) (p_law_scene cell) := by
  unfold m_law_scene p_law_scene
  exact fn_Sr (n := 0) (enc := (eP3 (eL D.int) (eL (eL D.int)) D.int)) (E := fun _ _ => True) (EK := fun _ _ => False) (EX := fun _ => True) [.v 0 (D.int cell), .un, .un, .un, .un, .un, .un, .un, .un, .un, .un] rfl rfl (sm_one
(sm_assoc (sm_N fun row h_row =>
(sm_asg [.v 0 (D.int cell), .v 1 ((eL D.int) row), .un, .un, .un, .un, .un, .un, .un, .un, .un] (fn_o (a0_ok (var_ok rfl) (a0_ok c_ok (a0_ok c_ok ev_nil))) ((t_law_digits cell 50 55440).ok h_row)) rfl
(sm_assoc (sm_N fun at0 h_at0 =>
(sm_lt fun count h_count =>
(sm_asg [.v 0 (D.int cell), .v 1 ((eL D.int) row), .v 0 (D.int count), .un, .un, .un, .un, .un, .un, .un, .un] (tr (enc := D.int) (own0_ok (add_ok c_ok (mod_l (toi_o (ix_l (enc := D.int) (xs := row) (var_ok rfl) c_ok h_at0)) c_ok))) h_count) rfl
(sm_assoc (sm_N fun at1 h_at1 =>
(sm_B (E' := (fun (s : Int) (ss : En) => ss = [.v 0 (D.int cell), .v 1 ((eL D.int) row), .v 0 (D.int s), .un, .un, .un, .un, .un, .un, .un, .un])) rets_rt (sm_one (sm_if (test_ok (eq_ok (mod_l (toi_o (div_l (ix_l (enc := D.int) (xs := row) (var_ok rfl) c_ok h_at1) c_ok)) c_ok) c_ok)) (fun _ =>
(sm_N fun at2 h_at2 =>
(sm_lt fun count1 h_count1 =>
(sm_asg [.v 0 (D.int cell), .v 1 ((eL D.int) row), .v 0 (D.int count1), .un, .un, .un, .un, .un, .un, .un, .un] (tr (enc := D.int) (own0_ok (add_ok c_ok (mod_l (toi_o (div_l (ix_l (enc := D.int) (xs := row) (var_ok rfl) c_ok h_at2) c_ok)) c_ok))) h_count1) rfl
(sm_end rfl))))) (fun _ =>
(sm_no (sm_end rfl))))) (by
 rintro count2 _ rfl
 exact ((sm_assoc (sm_frz [.v 0 (D.int cell), .v 0 ((eL D.int) row), .v 0 (D.int count2), .un, .un, .un, .un, .un, .un, .un, .un] rfl rfl
(sm_N fun at3 h_at3 =>
(sm_N fun at4 h_at4 =>
(sm_N fun standing h_standing =>
(sm_asg [.v 0 (D.int cell), .v 0 ((eL D.int) row), .v 0 (D.int count2), .v 1 ((eL D.int) standing), .un, .un, .un, .un, .un, .un, .un] (fn_o (a0_ok (var_ok rfl) (a0_ok (var_ok rfl) (a0_ok (ix_l (enc := D.int) (xs := [2, 4, 10, 200]) (frz_ok (lst_o (enc := D.int) (a_con (enc := D.int) (v := 2) c_ok (a_con (enc := D.int) (v := 4) c_ok (a_con (enc := D.int) (v := 10) c_ok (a_con (enc := D.int) (v := 200) c_ok a_nil')))))) (mod_l (toi_o (ix_l (enc := D.int) (xs := row) (var_ok rfl) c_ok h_at3)) c_ok) h_at4) ev_nil))) ((t_law_standing row count2 at4).ok h_standing)) rfl
(sm_assoc (sm_frz [.v 0 (D.int cell), .v 0 ((eL D.int) row), .v 0 (D.int count2), .v 0 ((eL D.int) standing), .un, .un, .un, .un, .un, .un, .un] rfl rfl
(sm_N fun places h_places =>
(sm_asg [.v 0 (D.int cell), .v 0 ((eL D.int) row), .v 0 (D.int count2), .v 0 ((eL D.int) standing), .v 1 ((eL D.int) places), .un, .un, .un, .un, .un, .un] (fn_o (a0_ok (var_ok rfl) ev_nil) ((t_law_spots standing).ok h_places)) rfl
(sm_assoc (sm_asg [.v 0 (D.int cell), .v 0 ((eL D.int) row), .v 0 (D.int count2), .v 0 ((eL D.int) standing), .v 1 ((eL D.int) places), .v 1 ((eL (eL D.int)) []), .un, .un, .un, .un, .un] (lst_o (enc := (eL D.int)) a_nil') rfl
(sm_assoc (sm_N fun rng h_rng =>
(sm_for (IV := (fun (s : List (List Int)) (ss : En) => ∃ jx0 : Sl, ∃ jx1 : Sl, ∃ jx2 : Sl, ∃ jx3 : Sl, ∃ jx4 : Sl, ss = [.v 0 (D.int cell), .v 0 ((eL D.int) row), .v 0 (D.int count2), .v 0 ((eL D.int) standing), .v 1 ((eL D.int) places), .v 1 ((eL (eL D.int)) s), jx0, jx1, jx2, jx3, jx4])) (enc := D.int) rets_rt (it_1 (var_ok rfl) h_rng) ⟨_, _, _, _, _, rfl⟩ (by
 rintro k ahead _ ⟨j, j1, j2, j3, j4, rfl⟩
 exact (sm_step [.v 0 (D.int cell), .v 0 ((eL D.int) row), .v 0 (D.int count2), .v 0 ((eL D.int) standing), .v 1 ((eL D.int) places), .v 1 ((eL (eL D.int)) ahead), .v 0 (D.int k), j1, j2, j3, j4] rfl (sm_one (sm_assoc (sm_N fun digit h_digit =>
(sm_asg [.v 0 (D.int cell), .v 0 ((eL D.int) row), .v 0 (D.int count2), .v 0 ((eL D.int) standing), .v 1 ((eL D.int) places), .v 1 ((eL (eL D.int)) ahead), .v 0 (D.int k), .v 0 (D.int digit), j2, j3, j4] (own0_ok (ix_l (enc := D.int) (xs := row) (var_ok rfl) (add_ok c_ok (var_ok rfl)) h_digit)) rfl
(sm_assoc (sm_asg [.v 0 (D.int cell), .v 0 ((eL D.int) row), .v 0 (D.int count2), .v 0 ((eL D.int) standing), .v 1 ((eL D.int) places), .v 1 ((eL (eL D.int)) ahead), .v 0 (D.int k), .v 0 (D.int digit), .v 1 ((eL D.int) []), j3, j4] (lst_o (enc := D.int) a_nil') rfl
(sm_assoc (sm_N fun rng1 h_rng1 =>
(sm_for (IV := (fun (s : List Int) (ss : En) => ∃ jx0 : Sl, ∃ jx1 : Sl, ss = [.v 0 (D.int cell), .v 0 ((eL D.int) row), .v 0 (D.int count2), .v 0 ((eL D.int) standing), .v 1 ((eL D.int) places), .v 1 ((eL (eL D.int)) ahead), .v 0 (D.int k), .v 0 (D.int digit), .v 1 ((eL D.int) s), jx0, jx1])) (enc := D.int) rets_rt (it_1 (mod_l (toi_o (var_ok rfl)) c_ok) h_rng1) ⟨_, _, rfl⟩ (by
 rintro j7 seen _ ⟨j5, j6, rfl⟩
 exact (sm_step [.v 0 (D.int cell), .v 0 ((eL D.int) row), .v 0 (D.int count2), .v 0 ((eL D.int) standing), .v 1 ((eL D.int) places), .v 1 ((eL (eL D.int)) ahead), .v 0 (D.int k), .v 0 (D.int digit), .v 1 ((eL D.int) seen), .v 0 (D.int j7), j6] rfl (sm_one (sm_assoc (sm_N fun at5 h_at5 =>
(sm_N fun div h_div =>
(sm_asg [.v 0 (D.int cell), .v 0 ((eL D.int) row), .v 0 (D.int count2), .v 0 ((eL D.int) standing), .v 1 ((eL D.int) places), .v 1 ((eL (eL D.int)) ahead), .v 0 (D.int k), .v 0 (D.int digit), .v 1 ((eL D.int) seen), .v 0 (D.int j7), .v 0 (D.int div)] (own0_ok (div_r (var_ok rfl) (ix_l (enc := D.int) (xs := [4, 96, 2304]) (frz_ok (lst_o (enc := D.int) (a_con (enc := D.int) (v := 4) c_ok (a_con (enc := D.int) (v := 96) c_ok (a_con (enc := D.int) (v := 2304) c_ok a_nil'))))) (var_ok rfl) h_at5) h_div)) rfl
(sm_N fun mod0 h_mod0 =>
(sm_N fun at6 h_at6 =>
(sm_N fun at7 h_at7 =>
(sm_N fun seen1 h_seen1 =>
(sm_st (app_s (enc := D.int) (xs := seen) (v := (min2 199 (at6 + at7))) (ys := seen1) [.v 0 (D.int cell), .v 0 ((eL D.int) row), .v 0 (D.int count2), .v 0 ((eL D.int) standing), .v 1 ((eL D.int) places), .v 1 ((eL (eL D.int)) ahead), .v 0 (D.int k), .v 0 (D.int digit), .v 1 ((eL D.int) seen1), .v 0 (D.int j7), .v 0 (D.int div)] (own0_ok (min_o c_ok (add_ok (ix_l (enc := D.int) (xs := places) (var_ok rfl) (mod_r (toi_o (var_ok rfl)) (len_l (var_ok rfl)) h_mod0) h_at6) (ix_l (enc := D.int) (xs := [0, 0, 0, 1]) (frz_ok (lst_o (enc := D.int) (a_con (enc := D.int) (v := 0) c_ok (a_con (enc := D.int) (v := 0) c_ok (a_con (enc := D.int) (v := 0) c_ok (a_con (enc := D.int) (v := 1) c_ok a_nil')))))) (mod_l (toi_o (div_l (var_ok rfl) c_ok)) c_ok) h_at7)))) rfl h_seen1 rfl)
(sm_end ⟨_, _, rfl⟩)))))))))))))  (by
 rintro seen2 _ ⟨j8, j9, rfl⟩
 exact ((sm_assoc (sm_N fun at8 h_at8 =>
(sm_B (E' := (fun (s : List Int) (ss : En) => ss = [.v 0 (D.int cell), .v 0 ((eL D.int) row), .v 0 (D.int count2), .v 0 ((eL D.int) standing), .v 1 ((eL D.int) places), .v 1 ((eL (eL D.int)) ahead), .v 0 (D.int k), .v 0 (D.int digit), .v 1 ((eL D.int) s), j8, j9])) rets_rt (sm_one (sm_if (test_ok (lt_ok (ix_l (enc := D.int) (xs := standing) (var_ok rfl) (var_ok rfl) h_at8) c_ok)) (fun _ =>
(sm_asg [.v 0 (D.int cell), .v 0 ((eL D.int) row), .v 0 (D.int count2), .v 0 ((eL D.int) standing), .v 1 ((eL D.int) places), .v 1 ((eL (eL D.int)) ahead), .v 0 (D.int k), .v 0 (D.int digit), .v 1 ((eL D.int) []), j8, j9] (lst_o (enc := D.int) a_nil') rfl
(sm_end rfl))) (fun _ =>
(sm_no (sm_end rfl))))) (by
 rintro seen3 _ rfl
 exact ((sm_frz [.v 0 (D.int cell), .v 0 ((eL D.int) row), .v 0 (D.int count2), .v 0 ((eL D.int) standing), .v 1 ((eL D.int) places), .v 1 ((eL (eL D.int)) ahead), .v 0 (D.int k), .v 0 (D.int digit), .v 0 ((eL D.int) seen3), j8, j9] rfl rfl
(sm_N fun ahead1 h_ahead1 =>
(sm_st (app_s (enc := (eL D.int)) (xs := ahead) (v := seen3) (ys := ahead1) [.v 0 (D.int cell), .v 0 ((eL D.int) row), .v 0 (D.int count2), .v 0 ((eL D.int) standing), .v 1 ((eL D.int) places), .v 1 ((eL (eL D.int)) ahead1), .v 0 (D.int k), .v 0 (D.int digit), .v 0 ((eL D.int) seen3), j8, j9] (own0_ok (var_ok rfl)) rfl h_ahead1 rfl)
(sm_end ⟨_, _, _, _, _, rfl⟩))))))))))))))))))))))  (by
 rintro ahead2 _ ⟨j10, j11, j12, j13, j14, rfl⟩
 exact ((sm_frz [.v 0 (D.int cell), .v 0 ((eL D.int) row), .v 0 (D.int count2), .v 0 ((eL D.int) standing), .v 1 ((eL D.int) places), .v 0 ((eL (eL D.int)) ahead2), j10, j11, j12, j13, j14] rfl rfl
(sm_frz [.v 0 (D.int cell), .v 0 ((eL D.int) row), .v 0 (D.int count2), .v 0 ((eL D.int) standing), .v 1 ((eL D.int) places), .v 0 ((eL (eL D.int)) ahead2), j10, j11, j12, j13, j14] rfl rfl
(sm_N fun at9 h_at9 =>
(sm_ret (enc := (eP3 (eL D.int) (eL (eL D.int)) D.int)) (r := (standing, ahead2, ((at9 / 100) % 4))) (own0_ok (tc ((eP3 (eL D.int) (eL (eL D.int)) D.int) (standing, ahead2, ((at9 / 100) % 4))) (tup_o (a0_ok (var_ok rfl) (a0_ok (var_ok rfl) (a0_ok (mod_l (toi_o (div_l (ix_l (enc := D.int) (xs := row) (var_ok rfl) c_ok h_at9) c_ok)) c_ok) ev_nil))))))))))))))))))))))))))))))))))))))))
/-! ### law_clear -/
noncomputable def p_law_clear (scene : List Int × List (List Int) × Int) (places : List Int) : Res Int := oRes (
  if (decide (scene.2.2 < 2)) = true then
  (oN (ixR places 0) fun at0 =>
    .rt at0)
  else
  (oB (oFor (fun (node : Int) => fun _ =>
        oN (rngR (scene.1.length : Int)) fun rng =>
        oB (oFor (fun (k : Int) => fun (clear : Bool) =>
            oN (ixR scene.1 k) fun at1 =>
            oN (andR (.ok (!decide (at1 = node))) (bN (ixR scene.2.1 k) fun at2 => .ok (decide (node ∈ at2)))) fun both =>
            if both = true then
            (.nx false)
            else
            (.nx clear)) rng true)
        (fun (clear1 : Bool) =>
          if clear1 = true then
          (.rt node)
          else
          (.nx ()))) places ())
    (fun _ =>
      oN (ixR places 0) fun at3 =>
      .rt at3)))
theorem t_law_clear (scene : List Int × List (List Int) × Int) (places : List Int) : Sr 0 D.int (m_law_clear [(eP3 (eL D.int) (eL (eL D.int)) D.int) scene, (eL D.int) places]) (p_law_clear scene places) := by
  unfold m_law_clear p_law_clear
  exact fn_Sr (n := 0) (enc := D.int) (E := fun _ _ => True) (EK := fun _ _ => False) (EX := fun _ => True) [.v 0 ((eP3 (eL D.int) (eL (eL D.int)) D.int) scene), .v 0 ((eL D.int) places), .un, .un, .un] rfl rfl (sm_one
(sm_assoc (sm_if (test_ok (lt_ok (ix_c 2 (var_ok rfl) c_ok rfl) c_ok)) (fun _ =>
(sm_N fun at0 h_at0 =>
(sm_ret (enc := D.int) (r := at0) (own0_ok (ix_l (enc := D.int) (xs := places) (var_ok rfl) c_ok h_at0))))) (fun _ =>
(sm_no (sm_assoc (sm_frz [.v 0 ((eP3 (eL D.int) (eL (eL D.int)) D.int) scene), .v 0 ((eL D.int) places), .un, .un, .un] rfl rfl
(sm_for (IV := (fun (s : Unit) (ss : En) => ∃ jx0 : Sl, ∃ jx1 : Sl, ∃ jx2 : Sl, ss = [.v 0 ((eP3 (eL D.int) (eL (eL D.int)) D.int) scene), .v 0 ((eL D.int) places), jx0, jx1, jx2])) (enc := D.int) rets_rt (it_l (var_ok rfl)) ⟨_, _, _, rfl⟩ (by
 rintro node _ _ ⟨j, j1, j2, rfl⟩
 exact (sm_step [.v 0 ((eP3 (eL D.int) (eL (eL D.int)) D.int) scene), .v 0 ((eL D.int) places), .v 0 (D.int node), j1, j2] rfl (sm_one (sm_assoc (sm_asg [.v 0 ((eP3 (eL D.int) (eL (eL D.int)) D.int) scene), .v 0 ((eL D.int) places), .v 0 (D.int node), .v 0 (D.bl true), j2] (own0_ok c_ok) rfl
(sm_assoc (sm_N fun rng h_rng =>
(sm_for (IV := (fun (s : Bool) (ss : En) => ∃ jx0 : Sl, ss = [.v 0 ((eP3 (eL D.int) (eL (eL D.int)) D.int) scene), .v 0 ((eL D.int) places), .v 0 (D.int node), .v 0 (D.bl s), jx0])) (enc := D.int) rets_rt (it_1 (len_l (ix_c 0 (var_ok rfl) c_ok rfl)) h_rng) ⟨_, rfl⟩ (by
 rintro k clear _ ⟨j3, rfl⟩
 exact (sm_step [.v 0 ((eP3 (eL D.int) (eL (eL D.int)) D.int) scene), .v 0 ((eL D.int) places), .v 0 (D.int node), .v 0 (D.bl clear), .v 0 (D.int k)] rfl (sm_one (sm_N fun at1 h_at1 =>
(sm_N fun both h_both =>
(sm_if ((st_and (st_ok (a := (!decide (at1 = node))) (test_ok (ev_ne (ix_l (enc := D.int) (xs := scene.1) (ix_c 0 (var_ok rfl) c_ok rfl) (var_ok rfl) h_at1) (var_ok rfl)))) (st_bN fun at2 h_at2 => (st_ok (a := (decide (node ∈ at2))) (test_ok (in_l (var_ok rfl) (ix_l (enc := (eL D.int)) (xs := scene.2.1) (ix_c 1 (var_ok rfl) c_ok rfl) (var_ok rfl) h_at2)))))).ok h_both) (fun _ =>
(sm_asg [.v 0 ((eP3 (eL D.int) (eL (eL D.int)) D.int) scene), .v 0 ((eL D.int) places), .v 0 (D.int node), .v 0 (D.bl false), .v 0 (D.int k)] (own0_ok c_ok) rfl
(sm_end ⟨_, rfl⟩))) (fun _ =>
(sm_no (sm_end ⟨_, rfl⟩)))))))))  (by
 rintro clear1 _ ⟨j4, rfl⟩
 exact ((sm_if (test_ok (var_ok rfl)) (fun _ =>
(sm_retV rfl)) (fun _ =>
(sm_no (sm_end ⟨_, _, _, rfl⟩))))))))))))))  (by
 rintro _ _ ⟨j5, j6, j7, rfl⟩
 exact ((sm_N fun at3 h_at3 =>
(sm_ret (enc := D.int) (r := at3) (own0_ok (ix_l (enc := D.int) (xs := places) (var_ok rfl) c_ok h_at3))))))))))))))
/-! ### law_numbers -/
noncomputable def p_law_numbers (cell : Int) : Res (List Int) := oRes (
  oN (p_law_digits cell 5 ((10 ^ 9) + 1)) fun row =>
  oN (ixR row 0) fun at0 =>
  oN (rngR (at0 % 5)) fun rng =>
  oB (oFor (fun (k : Int) => fun (numbers : List Int) =>
      oN (ixR row 0) fun at1 =>
      if (decide (((at1 / 5) % 2) = 0)) = true then
      (oN (ixR row (1 + k)) fun at2 =>
        oN (appR numbers (at2 % 7)) fun numbers1 =>
        .nx numbers1)
      else
      (oN (ixR row (1 + k)) fun at3 =>
        oN (appR numbers at3) fun numbers2 =>
        .nx numbers2)) rng [])
  (fun (numbers3 : List Int) =>
    .rt numbers3))
theorem t_law_numbers (cell : Int) : Sr 1 (eL D.int) (m_law_numbers [D.int cell]) (p_law_numbers cell) := by
  unfold m_law_numbers p_law_numbers
  exact fn_Sr (n := 1) (enc := (eL D.int)) (E := fun _ _ => True) (EK := fun _ _ => False) (EX := fun _ => True) [.v 0 (D.int cell), .un, .un, .un] rfl rfl (sm_one
(sm_assoc (sm_N fun row h_row =>
(sm_asg [.v 0 (D.int cell), .v 1 ((eL D.int) row), .un, .un] (fn_o (a0_ok (var_ok rfl) (a0_ok c_ok (a0_ok (add_ok (pow_l (a := 10) (e := 9)) c_ok) ev_nil))) ((t_law_digits cell 5 ((10 ^ 9) + 1)).ok h_row)) rfl
(sm_assoc (sm_asg [.v 0 (D.int cell), .v 1 ((eL D.int) row), .v 1 ((eL D.int) []), .un] (lst_o (enc := D.int) a_nil') rfl
(sm_assoc (sm_N fun at0 h_at0 =>
(sm_N fun rng h_rng =>
(sm_for (IV := (fun (s : List Int) (ss : En) => ∃ jx0 : Sl, ss = [.v 0 (D.int cell), .v 1 ((eL D.int) row), .v 1 ((eL D.int) s), jx0])) (enc := D.int) rets_rt (it_1 (mod_l (toi_o (ix_l (enc := D.int) (xs := row) (var_ok rfl) c_ok h_at0)) c_ok) h_rng) ⟨_, rfl⟩ (by
 rintro k numbers _ ⟨j, rfl⟩
 exact (sm_step [.v 0 (D.int cell), .v 1 ((eL D.int) row), .v 1 ((eL D.int) numbers), .v 0 (D.int k)] rfl (sm_one (sm_N fun at1 h_at1 =>
(sm_if (test_ok (eq_ok (mod_l (toi_o (div_l (ix_l (enc := D.int) (xs := row) (var_ok rfl) c_ok h_at1) c_ok)) c_ok) c_ok)) (fun _ =>
(sm_N fun at2 h_at2 =>
(sm_N fun numbers1 h_numbers1 =>
(sm_st (app_s (enc := D.int) (xs := numbers) (v := (at2 % 7)) (ys := numbers1) [.v 0 (D.int cell), .v 1 ((eL D.int) row), .v 1 ((eL D.int) numbers1), .v 0 (D.int k)] (own0_ok (mod_l (toi_o (ix_l (enc := D.int) (xs := row) (var_ok rfl) (add_ok c_ok (var_ok rfl)) h_at2)) c_ok)) rfl h_numbers1 rfl)
(sm_end ⟨_, rfl⟩))))) (fun _ =>
(sm_N fun at3 h_at3 =>
(sm_N fun numbers2 h_numbers2 =>
(sm_st (app_s (enc := D.int) (xs := numbers) (v := at3) (ys := numbers2) [.v 0 (D.int cell), .v 1 ((eL D.int) row), .v 1 ((eL D.int) numbers2), .v 0 (D.int k)] (own0_ok (ix_l (enc := D.int) (xs := row) (var_ok rfl) (add_ok c_ok (var_ok rfl)) h_at3)) rfl h_numbers2 rfl)
(sm_end ⟨_, rfl⟩))))))))))  (by
 rintro numbers3 _ ⟨j1, rfl⟩
 exact ((sm_retV rfl)))))))))))))
/-! ### law_dues -/
noncomputable def p_law_dues (scene : List Int × List (List Int) × Int) (numbers : List Int) (turn : Int) : Res (List Int) := oRes (
  oN (p_law_spots scene.1) fun places =>
  oN (lcR places (fun _ => .ok true) (fun (node : Int) => (.ok ((scene.1.count node : Nat) : Int)))) fun counts =>
  oB (if (decide (turn < (numbers.length : Int))) = true then
    (oN (ixR numbers turn) fun number =>
      .nx (number, number))
    else
    (.nx (0, (-1))))
  (fun (s : Int × Int) => match s with | (number1, told) => (
      oN (mostR counts) fun most =>
      oN (indexR counts most) fun v =>
      oN (ixR places v) fun most1 =>
      oN (ixR places 0) fun at0 =>
      oN (modR number1 (places.length : Int)) fun mod0 =>
      oN (ixR places mod0) fun at1 =>
      oN (p_law_clear scene places) fun law_clear =>
      .rt [at0, most1, at1, law_clear, told])))
theorem t_law_dues (scene : List Int × List (List Int) × Int) (numbers : List Int) (turn : Int) : Sr 1 (eL D.int) (m_law_dues [(eP3 (eL D.int) (eL (eL D.int)) D.int) scene, (eL D.int) numbers, D.int turn]) (p_law_dues scene numbers turn) := by
  unfold m_law_dues p_law_dues
  exact fn_Sr (n := 1) (enc := (eL D.int)) (E := fun _ _ => True) (EK := fun _ _ => False) (EX := fun _ => True) [.v 0 ((eP3 (eL D.int) (eL (eL D.int)) D.int) scene), .v 0 ((eL D.int) numbers), .v 0 (D.int turn), .un, .un, .un, .un, .un, .un] rfl rfl (sm_one
(sm_assoc (sm_N fun places h_places =>
(sm_asg [.v 0 ((eP3 (eL D.int) (eL (eL D.int)) D.int) scene), .v 0 ((eL D.int) numbers), .v 0 (D.int turn), .v 1 ((eL D.int) places), .un, .un, .un, .un, .un] (fn_o (a0_ok (ix_c 0 (var_ok rfl) c_ok rfl) ev_nil) ((t_law_spots scene.1).ok h_places)) rfl
(sm_assoc (sm_frz [.v 0 ((eP3 (eL D.int) (eL (eL D.int)) D.int) scene), .v 0 ((eL D.int) numbers), .v 0 (D.int turn), .v 0 ((eL D.int) places), .un, .un, .un, .un, .un] rfl rfl
(sm_N fun counts h_counts =>
(sm_asg [.v 0 ((eP3 (eL D.int) (eL (eL D.int)) D.int) scene), .v 0 ((eL D.int) numbers), .v 0 (D.int turn), .v 0 ((eL D.int) places), .v 1 ((eL D.int) counts), .un, .un, .un, .un] (lc_o (enc := D.int) (enc2 := D.int) (it_l (var_ok rfl)) (fun node => ⟨[.v 0 ((eP3 (eL D.int) (eL (eL D.int)) D.int) scene), .v 0 ((eL D.int) numbers), .v 0 (D.int turn), .v 0 ((eL D.int) places), .un, .un, .un, .un, .v 0 (D.int node)], rfl, (st_ok (a := true) ev_true), (se_ok (enc := D.int) (a := ((scene.1.count node : Nat) : Int)) (cnt_o (ix_c 0 (var_ok rfl) c_ok rfl) (by decide) (var_ok rfl)))⟩) h_counts) rfl
(sm_assoc (sm_asg [.v 0 ((eP3 (eL D.int) (eL (eL D.int)) D.int) scene), .v 0 ((eL D.int) numbers), .v 0 (D.int turn), .v 0 ((eL D.int) places), .v 1 ((eL D.int) counts), .v 0 (D.int 0), .un, .un, .un] (own0_ok c_ok) rfl
(sm_assoc (sm_asg [.v 0 ((eP3 (eL D.int) (eL (eL D.int)) D.int) scene), .v 0 ((eL D.int) numbers), .v 0 (D.int turn), .v 0 ((eL D.int) places), .v 1 ((eL D.int) counts), .v 0 (D.int 0), .v 0 (D.int (-1)), .un, .un] (own0_ok (neg_o c_ok)) rfl
(sm_assoc (sm_B (E' := (fun (s : Int × Int) (ss : En) => ss = [.v 0 ((eP3 (eL D.int) (eL (eL D.int)) D.int) scene), .v 0 ((eL D.int) numbers), .v 0 (D.int turn), .v 0 ((eL D.int) places), .v 1 ((eL D.int) counts), .v 0 (D.int s.1), .v 0 (D.int s.2), .un, .un])) rets_rt (sm_one (sm_if (test_ok (lt_ok (var_ok rfl) (len_l (var_ok rfl)))) (fun _ =>
(sm_assoc (sm_N fun number h_number =>
(sm_asg [.v 0 ((eP3 (eL D.int) (eL (eL D.int)) D.int) scene), .v 0 ((eL D.int) numbers), .v 0 (D.int turn), .v 0 ((eL D.int) places), .v 1 ((eL D.int) counts), .v 0 (D.int number), .v 0 (D.int (-1)), .un, .un] (own0_ok (ix_l (enc := D.int) (xs := numbers) (var_ok rfl) (var_ok rfl) h_number)) rfl
(sm_asg [.v 0 ((eP3 (eL D.int) (eL (eL D.int)) D.int) scene), .v 0 ((eL D.int) numbers), .v 0 (D.int turn), .v 0 ((eL D.int) places), .v 1 ((eL D.int) counts), .v 0 (D.int number), .v 0 (D.int number), .un, .un] (own0_ok (var_ok rfl)) rfl
(sm_end rfl)))))) (fun _ =>
(sm_no (sm_end rfl))))) (by
 rintro ⟨number1, told⟩ _ rfl
 exact ((sm_assoc (sm_N fun most h_most =>
(sm_N fun v h_v =>
(sm_N fun most1 h_most1 =>
(sm_asg [.v 0 ((eP3 (eL D.int) (eL (eL D.int)) D.int) scene), .v 0 ((eL D.int) numbers), .v 0 (D.int turn), .v 0 ((eL D.int) places), .v 1 ((eL D.int) counts), .v 0 (D.int number1), .v 0 (D.int told), .v 0 (D.int most1), .un] (own0_ok (ix_l (enc := D.int) (xs := places) (var_ok rfl) (index_o (var_ok rfl) (max1_o (var_ok rfl) h_most) h_v) h_most1)) rfl
(sm_N fun at0 h_at0 =>
(sm_N fun mod0 h_mod0 =>
(sm_N fun at1 h_at1 =>
(sm_N fun law_clear h_law_clear =>
(sm_ret (enc := (eL D.int)) (r := [at0, most1, at1, law_clear, told]) (lst_o (enc := D.int) (a_con (enc := D.int) (v := at0) (ix_l (enc := D.int) (xs := places) (var_ok rfl) c_ok h_at0) (a_con (enc := D.int) (v := most1) (var_ok rfl) (a_con (enc := D.int) (v := at1) (ix_l (enc := D.int) (xs := places) (var_ok rfl) (mod_r (toi_o (var_ok rfl)) (len_l (var_ok rfl)) h_mod0) h_at1) (a_con (enc := D.int) (v := law_clear) (fnF_o (aC_ok (var_ok rfl) (aC_ok (var_ok rfl) ev_nil)) ((t_law_clear scene places).ok h_law_clear)) (a_con (enc := D.int) (v := told) (var_ok rfl) a_nil'))))))))))))))))))))))))))))))))
/-! ### LeastNode_pick -/
noncomputable def p_LeastNode_pick (self : O_LeastNode) (standing : List Int) (shown : Option (List (List Int))) : Res (O_LeastNode × Int) := oRes (
  oN (p_occupied standing) fun occupied =>
  oN (ixR occupied 0) fun at0 =>
  .rt (self, at0))
theorem t_LeastNode_pick (self : O_LeastNode) (standing : List Int) (shown : Option (List (List Int))) : SrV 0 D.int (fun (b : O_LeastNode) => [(enc_LeastNode T) b, .non, .non]) [(enc_LeastNode T) self, .non, .non] (m_LeastNode_pick [(enc_LeastNode T) self, (eL D.int) standing, (eN (eL (eL D.int))) shown]) (p_LeastNode_pick self standing shown) := by
  unfold m_LeastNode_pick p_LeastNode_pick
  exact fn_SrV (n := 0) (enc := D.int) (encB := (fun (b : O_LeastNode) => [(enc_LeastNode T) b, .non, .non])) (bx := [(enc_LeastNode T) self, .non, .non]) (E := fun _ _ => True) (EK := fun _ _ => False) (fun w => [.o (w 0) 2 ((enc_LeastNode T) self), .v 0 ((eL D.int) standing), .v 0 ((eN (eL (eL D.int))) shown)]) rfl (fun _ => rfl) (fun w => sm_one
(sm_frz [.o (w 0) 2 ((enc_LeastNode T) self), .v 0 ((eL D.int) standing), .v 0 ((eN (eL (eL D.int))) shown)] rfl rfl
(sm_N fun occupied h_occupied =>
(sm_N fun at0 h_at0 =>
(sm_retX (enc := D.int) (P := (fun (b : O_LeastNode) (ss : En) => GetV [some 1, none, none] (wsL 3 w) [(enc_LeastNode T) b, .non, .non] ss)) (r := (self, at0)) (eM_o (own0_ok (ix_l (enc := D.int) (xs := occupied) (frz_ok (fn_o (a0_ok (var_ok rfl) ev_nil) ((t_occupied standing).ok h_occupied))) c_ok h_at0))) (And.intro rfl (And.intro rfl (And.intro rfl True.intro))))))))
/-! ### MostLanes_pick -/
noncomputable def p_MostLanes_pick (self : O_MostLanes) (standing : List Int) (shown : Option (List (List Int))) : Res (O_MostLanes × Int) := oRes (
  oN (p_occupied standing) fun places =>
  oN (ixR places 0) fun best =>
  oB (oFor (fun (node : Int) => fun (best1 : Int) =>
      if (decide (((standing.count best1 : Nat) : Int) < ((standing.count node : Nat) : Int))) = true then
      (.nx node)
      else
      (.nx best1)) places best)
  (fun (best2 : Int) =>
    .rt (self, best2)))
theorem t_MostLanes_pick (self : O_MostLanes) (standing : List Int) (shown : Option (List (List Int))) : SrV 0 D.int (fun (b : O_MostLanes) => [(enc_MostLanes T) b, .non, .non]) [(enc_MostLanes T) self, .non, .non] (m_MostLanes_pick [(enc_MostLanes T) self, (eL D.int) standing, (eN (eL (eL D.int))) shown]) (p_MostLanes_pick self standing shown) := by
  unfold m_MostLanes_pick p_MostLanes_pick
  exact fn_SrV (n := 0) (enc := D.int) (encB := (fun (b : O_MostLanes) => [(enc_MostLanes T) b, .non, .non])) (bx := [(enc_MostLanes T) self, .non, .non]) (E := fun _ _ => True) (EK := fun _ _ => False) (fun w => [.o (w 0) 2 ((enc_MostLanes T) self), .v 0 ((eL D.int) standing), .v 0 ((eN (eL (eL D.int))) shown), .un, .un, .un]) rfl (fun _ => rfl) (fun w => sm_one
(sm_assoc (sm_frz [.o (w 0) 2 ((enc_MostLanes T) self), .v 0 ((eL D.int) standing), .v 0 ((eN (eL (eL D.int))) shown), .un, .un, .un] rfl rfl
(sm_N fun places h_places =>
(sm_asg [.o (w 0) 2 ((enc_MostLanes T) self), .v 0 ((eL D.int) standing), .v 0 ((eN (eL (eL D.int))) shown), .v 1 ((eL D.int) places), .un, .un] (fn_o (a0_ok (var_ok rfl) ev_nil) ((t_occupied standing).ok h_places)) rfl
(sm_assoc (sm_N fun best h_best =>
(sm_asg [.o (w 0) 2 ((enc_MostLanes T) self), .v 0 ((eL D.int) standing), .v 0 ((eN (eL (eL D.int))) shown), .v 1 ((eL D.int) places), .v 0 (D.int best), .un] (own0_ok (ix_l (enc := D.int) (xs := places) (var_ok rfl) c_ok h_best)) rfl
(sm_assoc (sm_frz [.o (w 0) 2 ((enc_MostLanes T) self), .v 0 ((eL D.int) standing), .v 0 ((eN (eL (eL D.int))) shown), .v 0 ((eL D.int) places), .v 0 (D.int best), .un] rfl rfl
(sm_for (IV := (fun (s : Int) (ss : En) => ∃ jx0 : Sl, ss = [.o (w 0) 2 ((enc_MostLanes T) self), .v 0 ((eL D.int) standing), .v 0 ((eN (eL (eL D.int))) shown), .v 0 ((eL D.int) places), .v 0 (D.int s), jx0])) (enc := D.int) (rets_rn (P := (fun (b : O_MostLanes) (ss : En) => GetV [some 1, none, none] (wsL 3 w) [(enc_MostLanes T) b, .non, .non] ss))) (it_l (var_ok rfl)) ⟨_, rfl⟩ (by
 rintro node best1 _ ⟨j, rfl⟩
 exact (sm_step [.o (w 0) 2 ((enc_MostLanes T) self), .v 0 ((eL D.int) standing), .v 0 ((eN (eL (eL D.int))) shown), .v 0 ((eL D.int) places), .v 0 (D.int best1), .v 0 (D.int node)] rfl (sm_one (sm_if (test_ok (gt_ok (cnt_o (var_ok rfl) (by decide) (var_ok rfl)) (cnt_o (var_ok rfl) (by decide) (var_ok rfl)))) (fun _ =>
(sm_asg [.o (w 0) 2 ((enc_MostLanes T) self), .v 0 ((eL D.int) standing), .v 0 ((eN (eL (eL D.int))) shown), .v 0 ((eL D.int) places), .v 0 (D.int node), .v 0 (D.int node)] (own0_ok (var_ok rfl)) rfl
(sm_end ⟨_, rfl⟩))) (fun _ =>
(sm_no (sm_end ⟨_, rfl⟩)))))))  (by
 rintro best2 _ ⟨j1, rfl⟩
 exact ((sm_retNV (enc := D.int) (P := (fun (b : O_MostLanes) (ss : En) => GetV [some 1, none, none] (wsL 3 w) [(enc_MostLanes T) b, .non, .non] ss)) (r := (self, best2)) rfl (And.intro rfl (And.intro rfl (And.intro rfl True.intro)))))))))))))))))
/-! ### ByRow_pick -/
noncomputable def p_ByRow_pick (self : O_ByRow) (standing : List Int) (shown : Option (List (List Int))) : Res (O_ByRow × Int) := oRes (
  oN (p_occupied standing) fun places =>
  oB (if (decide (self.2 < (self.1.length : Int))) = true then
    (oN (ixR self.1 self.2) fun number =>
      .nx number)
    else
    (.nx 0))
  (fun (number1 : Int) =>
    lt ((self.2 + 1)) fun picks =>
    oN (modR number1 (places.length : Int)) fun mod0 =>
    oN (ixR places mod0) fun at0 =>
    .rt ((self.1, picks), at0)))
theorem t_ByRow_pick (T : Txt P K mg) (self : O_ByRow) (standing : List Int) (shown : Option (List (List Int))) : SrV 0 D.int (fun (b : O_ByRow) => [(enc_ByRow T) b, .non, .non]) [(enc_ByRow T) self, .non, .non] ((m_ByRow_pick T) [(enc_ByRow T) self, (eL D.int) standing, (eN (eL (eL D.int))) shown]) (p_ByRow_pick self standing shown) := by
  unfold m_ByRow_pick p_ByRow_pick
  exact fn_SrV (n := 0) (enc := D.int) (encB := (fun (b : O_ByRow) => [(enc_ByRow T) b, .non, .non])) (bx := [(enc_ByRow T) self, .non, .non]) (E := fun _ _ => True) (EK := fun _ _ => False) (fun w => [.o (w 0) 2 ((enc_ByRow T) self), .v 0 ((eL D.int) standing), .v 0 ((eN (eL (eL D.int))) shown), .un, .un]) rfl (fun _ => rfl) (fun w => sm_one
(sm_assoc (sm_frz [.o (w 0) 2 ((enc_ByRow T) self), .v 0 ((eL D.int) standing), .v 0 ((eN (eL (eL D.int))) shown), .un, .un] rfl rfl
(sm_N fun places h_places =>
(sm_asg [.o (w 0) 2 ((enc_ByRow T) self), .v 0 ((eL D.int) standing), .v 0 ((eN (eL (eL D.int))) shown), .v 1 ((eL D.int) places), .un] (fn_o (a0_ok (var_ok rfl) ev_nil) ((t_occupied standing).ok h_places)) rfl
(sm_assoc (sm_asg [.o (w 0) 2 ((enc_ByRow T) self), .v 0 ((eL D.int) standing), .v 0 ((eN (eL (eL D.int))) shown), .v 1 ((eL D.int) places), .v 0 (D.int 0)] (own0_ok c_ok) rfl
(sm_assoc (sm_B (E' := (fun (s : Int) (ss : En) => ss = [.o (w 0) 2 ((enc_ByRow T) self), .v 0 ((eL D.int) standing), .v 0 ((eN (eL (eL D.int))) shown), .v 1 ((eL D.int) places), .v 0 (D.int s)])) (rets_rn (P := (fun (b : O_ByRow) (ss : En) => GetV [some 1, none, none] (wsL 3 w) [(enc_ByRow T) b, .non, .non] ss))) (sm_one (sm_if (test_ok (lt_ok (fld0_o (varo_ok rfl) (by exact lk_ByRow_picks) rfl) (len_l (fldL_o (varo_ok rfl) (by exact lk_ByRow_numbers) rfl)))) (fun _ =>
(sm_N fun number h_number =>
(sm_asg [.o (w 0) 2 ((enc_ByRow T) self), .v 0 ((eL D.int) standing), .v 0 ((eN (eL (eL D.int))) shown), .v 1 ((eL D.int) places), .v 0 (D.int number)] (own0_ok (ix_l (enc := D.int) (xs := self.1) (fldL_o (varo_ok rfl) (by exact lk_ByRow_numbers) rfl) (fld0_o (varo_ok rfl) (by exact lk_ByRow_picks) rfl) h_number)) rfl
(sm_end rfl)))) (fun _ =>
(sm_no (sm_end rfl))))) (by
 rintro number1 _ rfl
 exact ((sm_assoc (sm_lt fun picks h_picks =>
(sm_st (setFP_s [.o (w 0) 2 ((enc_ByRow T) (self.1, picks)), .v 0 ((eL D.int) standing), .v 0 ((eN (eL (eL D.int))) shown), .v 1 ((eL D.int) places), .v 0 (D.int number1)] (tr (enc := D.int) (own0_ok (add_ok (fld0_o (varo_ok rfl) (by exact lk_ByRow_picks) rfl) c_ok)) h_picks) (gVar_o rfl) rfl (Nat.le_of_ble_eq_true rfl) (Or.inr ⟨rfl, rfl⟩) rfl)
(sm_N fun mod0 h_mod0 =>
(sm_N fun at0 h_at0 =>
(sm_retX (enc := D.int) (P := (fun (b : O_ByRow) (ss : En) => GetV [some 1, none, none] (wsL 3 w) [(enc_ByRow T) b, .non, .non] ss)) (r := ((self.1, picks), at0)) (eM_o (own0_ok (ix_l (enc := D.int) (xs := places) (var_ok rfl) (mod_r (toi_o (var_ok rfl)) (len_l (var_ok rfl)) h_mod0) h_at0))) (And.intro rfl (And.intro rfl (And.intro rfl True.intro))))))))))))))))))))
/-! ### Fixed_pick -/
noncomputable def p_Fixed_pick (self : O_Fixed) (standing : List Int) (shown : Option (List (List Int))) : Res (O_Fixed × Int) := oRes (
  lt ((self.2 + 1)) fun asked =>
  if (decide ((((self.1, asked).1).length : Int) < ((self.1, asked).2))) = true then
  (.rt ((self.1, asked), (-1)))
  else
  (oN (ixR ((self.1, asked).1) (((self.1, asked).2) - 1)) fun at0 =>
    .rt ((self.1, asked), at0)))
theorem t_Fixed_pick (T : Txt P K mg) (self : O_Fixed) (standing : List Int) (shown : Option (List (List Int))) : SrV 0 D.int (fun (b : O_Fixed) => [(enc_Fixed T) b, .non, .non]) [(enc_Fixed T) self, .non, .non] ((m_Fixed_pick T) [(enc_Fixed T) self, (eL D.int) standing, (eN (eL (eL D.int))) shown]) (p_Fixed_pick self standing shown) := by
  unfold m_Fixed_pick p_Fixed_pick
  exact fn_SrV (n := 0) (enc := D.int) (encB := (fun (b : O_Fixed) => [(enc_Fixed T) b, .non, .non])) (bx := [(enc_Fixed T) self, .non, .non]) (E := fun _ _ => True) (EK := fun _ _ => False) (fun w => [.o (w 0) 2 ((enc_Fixed T) self), .v 0 ((eL D.int) standing), .v 0 ((eN (eL (eL D.int))) shown)]) rfl (fun _ => rfl) (fun w => sm_one
(sm_assoc (sm_lt fun asked h_asked =>
(sm_st (setFP_s [.o (w 0) 2 ((enc_Fixed T) (self.1, asked)), .v 0 ((eL D.int) standing), .v 0 ((eN (eL (eL D.int))) shown)] (tr (enc := D.int) (own0_ok (add_ok (fld0_o (varo_ok rfl) (by exact lk_Fixed_asked) rfl) c_ok)) h_asked) (gVar_o rfl) rfl (Nat.le_of_ble_eq_true rfl) (Or.inr ⟨rfl, rfl⟩) rfl)
(sm_assoc (sm_if (test_ok (gt_ok (fld0_o (varo_ok rfl) (by exact lk_Fixed_asked) rfl) (len_t (fld0_o (varo_ok rfl) (by exact lk_Fixed_listed) rfl)))) (fun _ =>
(sm_retX (enc := D.int) (P := (fun (b : O_Fixed) (ss : En) => GetV [some 1, none, none] (wsL 3 w) [(enc_Fixed T) b, .non, .non] ss)) (r := ((self.1, asked), (-1))) (eM_o (own0_ok c_ok)) (And.intro rfl (And.intro rfl (And.intro rfl True.intro))))) (fun _ =>
(sm_no (sm_N fun at0 h_at0 =>
(sm_retX (enc := D.int) (P := (fun (b : O_Fixed) (ss : En) => GetV [some 1, none, none] (wsL 3 w) [(enc_Fixed T) b, .non, .non] ss)) (r := ((self.1, asked), at0)) (eM_o (own0_ok (ix_t (enc := D.int) (xs := (self.1, asked).1) (fld0_o (varo_ok rfl) (by exact lk_Fixed_listed) rfl) (sub_ok (fld0_o (varo_ok rfl) (by exact lk_Fixed_asked) rfl) c_ok) h_at0))) (And.intro rfl (And.intro rfl (And.intro rfl True.intro)))))))))))))
/-! ### Peek_pick -/
noncomputable def p_Peek_pick (self : O_Peek) (standing : List Int) (shown : Option (List (List Int))) : Res (O_Peek × Int) := oRes (
  oN (p_occupied standing) fun places =>
  if shown.isNone = true then
  (oN (ixR places 0) fun at0 =>
    .rt (self, at0))
  else
  (lt ((([] : List (Int × Bool)) : List (Int × Bool))) fun awaited =>
    oN (rngR (standing.length : Int)) fun rng =>
    oB (oFor (fun (lane : Int) => fun (awaited1 : (List (Int × Bool))) =>
        oN (getR shown) fun v =>
        oN (ixR v lane) fun at1 =>
        oB (oFor (fun (node : Int) => fun (awaited2 : (List (Int × Bool))) =>
            oN (ixR standing lane) fun at2 =>
            if (!decide (node = at2)) = true then
            (oN (dsetR awaited2 node true) fun awaited3 =>
              .nx awaited3)
            else
            (.nx awaited2)) at1 awaited1)
        (fun (awaited4 : (List (Int × Bool))) =>
          .nx awaited4)) rng awaited)
    (fun (awaited5 : (List (Int × Bool))) =>
      oB (oFor (fun (node1 : Int) => fun _ =>
          if (!dhas awaited5 node1) = true then
          (.rt (self, node1))
          else
          (.nx ())) places ())
      (fun _ =>
        oN (ixR places 0) fun at3 =>
        .rt (self, at3)))))
theorem t_Peek_pick (self : O_Peek) (standing : List Int) (shown : Option (List (List Int))) : SrV 0 D.int (fun (b : O_Peek) => [(enc_Peek T) b, .non, .non]) [(enc_Peek T) self, .non, .non] (m_Peek_pick [(enc_Peek T) self, (eL D.int) standing, (eN (eL (eL D.int))) shown]) (p_Peek_pick self standing shown) := by
  unfold m_Peek_pick p_Peek_pick
  exact fn_SrV (n := 0) (enc := D.int) (encB := (fun (b : O_Peek) => [(enc_Peek T) b, .non, .non])) (bx := [(enc_Peek T) self, .non, .non]) (E := fun _ _ => True) (EK := fun _ _ => False) (fun w => [.o (w 0) 2 ((enc_Peek T) self), .v 0 ((eL D.int) standing), .v 0 ((eN (eL (eL D.int))) shown), .un, .un, .un, .un]) rfl (fun _ => rfl) (fun w => sm_one
(sm_assoc (sm_frz [.o (w 0) 2 ((enc_Peek T) self), .v 0 ((eL D.int) standing), .v 0 ((eN (eL (eL D.int))) shown), .un, .un, .un, .un] rfl rfl
(sm_N fun places h_places =>
(sm_asg [.o (w 0) 2 ((enc_Peek T) self), .v 0 ((eL D.int) standing), .v 0 ((eN (eL (eL D.int))) shown), .v 1 ((eL D.int) places), .un, .un, .un] (fn_o (a0_ok (var_ok rfl) ev_nil) ((t_occupied standing).ok h_places)) rfl
(sm_assoc (sm_if (test_ok (isn (fun _ z => by cases z) (var_ok rfl) c_ok)) (fun _ =>
(sm_N fun at0 h_at0 =>
(sm_retX (enc := D.int) (P := (fun (b : O_Peek) (ss : En) => GetV [some 1, none, none] (wsL 3 w) [(enc_Peek T) b, .non, .non] ss)) (r := (self, at0)) (eM_o (own0_ok (ix_l (enc := D.int) (xs := places) (var_ok rfl) c_ok h_at0))) (And.intro rfl (And.intro rfl (And.intro rfl True.intro)))))) (fun _ =>
(sm_no (sm_assoc (sm_lt fun awaited h_awaited =>
(sm_asg [.o (w 0) 2 ((enc_Peek T) self), .v 0 ((eL D.int) standing), .v 0 ((eN (eL (eL D.int))) shown), .v 1 ((eL D.int) places), .v 1 ((eDi D.bl) awaited), .un, .un] (tr (enc := (eDi D.bl)) (dnew_o (enc := D.bl)) h_awaited) rfl
(sm_assoc (sm_N fun rng h_rng =>
(sm_for (IV := (fun (s : (List (Int × Bool))) (ss : En) => ∃ jx0 : Sl, ∃ jx1 : Sl, ss = [.o (w 0) 2 ((enc_Peek T) self), .v 0 ((eL D.int) standing), .v 0 ((eN (eL (eL D.int))) shown), .v 1 ((eL D.int) places), .v 1 ((eDi D.bl) s), jx0, jx1])) (enc := D.int) (rets_rn (P := (fun (b : O_Peek) (ss : En) => GetV [some 1, none, none] (wsL 3 w) [(enc_Peek T) b, .non, .non] ss))) (it_1 (len_l (var_ok rfl)) h_rng) ⟨_, _, rfl⟩ (by
 rintro lane awaited1 _ ⟨j, j1, rfl⟩
 exact (sm_step [.o (w 0) 2 ((enc_Peek T) self), .v 0 ((eL D.int) standing), .v 0 ((eN (eL (eL D.int))) shown), .v 1 ((eL D.int) places), .v 1 ((eDi D.bl) awaited1), .v 0 (D.int lane), j1] rfl (sm_one (sm_N fun v h_v =>
(sm_N fun at1 h_at1 =>
(sm_for (IV := (fun (s : (List (Int × Bool))) (ss : En) => ∃ jx0 : Sl, ss = [.o (w 0) 2 ((enc_Peek T) self), .v 0 ((eL D.int) standing), .v 0 ((eN (eL (eL D.int))) shown), .v 1 ((eL D.int) places), .v 1 ((eDi D.bl) s), .v 0 (D.int lane), jx0])) (enc := D.int) (rets_rn (P := (fun (b : O_Peek) (ss : En) => GetV [some 1, none, none] (wsL 3 w) [(enc_Peek T) b, .non, .non] ss))) (it_l (ix_l (enc := (eL D.int)) (xs := v) (get_o (enc := (eL (eL D.int))) (var_ok rfl) h_v) (var_ok rfl) h_at1)) ⟨_, rfl⟩ (by
 rintro node awaited2 _ ⟨j2, rfl⟩
 exact (sm_step [.o (w 0) 2 ((enc_Peek T) self), .v 0 ((eL D.int) standing), .v 0 ((eN (eL (eL D.int))) shown), .v 1 ((eL D.int) places), .v 1 ((eDi D.bl) awaited2), .v 0 (D.int lane), .v 0 (D.int node)] rfl (sm_one (sm_N fun at2 h_at2 =>
(sm_if (test_ok (ev_ne (var_ok rfl) (ix_l (enc := D.int) (xs := standing) (var_ok rfl) (var_ok rfl) h_at2))) (fun _ =>
(sm_N fun awaited3 h_awaited3 =>
(sm_st (dset_s (enc := D.bl) (kvs := awaited2) (v := true) (kvs2 := awaited3) [.o (w 0) 2 ((enc_Peek T) self), .v 0 ((eL D.int) standing), .v 0 ((eN (eL (eL D.int))) shown), .v 1 ((eL D.int) places), .v 1 ((eDi D.bl) awaited3), .v 0 (D.int lane), .v 0 (D.int node)] rfl c_ok (var_ok rfl) h_awaited3 rfl)
(sm_end ⟨_, rfl⟩)))) (fun _ =>
(sm_no (sm_end ⟨_, rfl⟩))))))))  (by
 rintro awaited4 _ ⟨j3, rfl⟩
 exact ((sm_end ⟨_, _, rfl⟩)))))))))  (by
 rintro awaited5 _ ⟨j4, j5, rfl⟩
 exact ((sm_assoc (sm_frz [.o (w 0) 2 ((enc_Peek T) self), .v 0 ((eL D.int) standing), .v 0 ((eN (eL (eL D.int))) shown), .v 0 ((eL D.int) places), .v 1 ((eDi D.bl) awaited5), j4, j5] rfl rfl
(sm_for (IV := (fun (s : Unit) (ss : En) => ∃ jx0 : Sl, ss = [.o (w 0) 2 ((enc_Peek T) self), .v 0 ((eL D.int) standing), .v 0 ((eN (eL (eL D.int))) shown), .v 0 ((eL D.int) places), .v 1 ((eDi D.bl) awaited5), j4, jx0])) (enc := D.int) (rets_rn (P := (fun (b : O_Peek) (ss : En) => GetV [some 1, none, none] (wsL 3 w) [(enc_Peek T) b, .non, .non] ss))) (it_l (var_ok rfl)) ⟨_, rfl⟩ (by
 rintro node1 _ _ ⟨j6, rfl⟩
 exact (sm_step [.o (w 0) 2 ((enc_Peek T) self), .v 0 ((eL D.int) standing), .v 0 ((eN (eL (eL D.int))) shown), .v 0 ((eL D.int) places), .v 1 ((eDi D.bl) awaited5), j4, .v 0 (D.int node1)] rfl (sm_one (sm_if (test_ok (dnin_o (enc := D.bl) (kvs := awaited5) (var_ok rfl) (var_ok rfl) (by decide))) (fun _ =>
(sm_retNV (enc := D.int) (P := (fun (b : O_Peek) (ss : En) => GetV [some 1, none, none] (wsL 3 w) [(enc_Peek T) b, .non, .non] ss)) (r := (self, node1)) rfl (And.intro rfl (And.intro rfl (And.intro rfl True.intro))))) (fun _ =>
(sm_no (sm_end ⟨_, rfl⟩)))))))  (by
 rintro _ _ ⟨j7, rfl⟩
 exact ((sm_N fun at3 h_at3 =>
(sm_retX (enc := D.int) (P := (fun (b : O_Peek) (ss : En) => GetV [some 1, none, none] (wsL 3 w) [(enc_Peek T) b, .non, .non] ss)) (r := (self, at3)) (eM_o (own0_ok (ix_l (enc := D.int) (xs := places) (var_ok rfl) c_ok h_at3))) (And.intro rfl (And.intro rfl (And.intro rfl True.intro)))))))))))))))))))))))))))
/-! ### law_asked_LeastNode -/
noncomputable def p_law_asked_LeastNode (policy : O_LeastNode) (scene : List Int × List (List Int) × Int) : Res (O_LeastNode × Int) := oRes (
  oN (lcR scene.2.1 (fun _ => .ok true) (fun (seen : List Int) => (.ok seen))) fun peeked =>
  oB (if (decide (scene.2.2 = 0)) = true then
    (oN (p_LeastNode_pick policy scene.1 none) fun told =>
      .nx (told.1, scene.1, told.2))
    else
    (if (decide (scene.2.2 = 1)) = true then
      (oN (p_LeastNode_pick policy scene.1 none) fun told1 =>
        .nx (told1.1, scene.1, told1.2))
      else
      (oN (p_LeastNode_pick policy scene.1 (some peeked)) fun told2 =>
        .nx (told2.1, scene.1, told2.2))))
  (fun (s : O_LeastNode × List Int × Int) => match s with | (policy1, handed, told3) => (
      oN (orR (.ok (!decide (handed = scene.1))) (bN (orR (.ok (!decide (peeked = scene.2.1))) (bN (p_law_is_int told3) fun law_is_int => .ok (!law_is_int))) fun any => .ok any)) fun any1 =>
      if any1 = true then
      (.rt (policy1, (-9)))
      else
      (.rt (policy1, told3)))))
theorem t_law_asked_LeastNode (T : Txt P K mg) (policy : O_LeastNode) (scene : List Int × List (List Int) × Int) : SrV 0 D.int (fun (b : O_LeastNode) => [(enc_LeastNode T) b, .non]) [(enc_LeastNode T) policy, .non] ((m_law_asked T) [(enc_LeastNode T) policy, (eP3 (eL D.int) (eL (eL D.int)) D.int) scene]) (p_law_asked_LeastNode policy scene) := by
  unfold m_law_asked p_law_asked_LeastNode
  exact fn_SrV (n := 0) (enc := D.int) (encB := (fun (b : O_LeastNode) => [(enc_LeastNode T) b, .non])) (bx := [(enc_LeastNode T) policy, .non]) (E := fun _ _ => True) (EK := fun _ _ => False) (fun w => [.o (w 0) 2 ((enc_LeastNode T) policy), .v 0 ((eP3 (eL D.int) (eL (eL D.int)) D.int) scene), .un, .un, .un, .un]) rfl (fun _ => rfl) (fun w => sm_one
(sm_assoc (sm_asg [.o (w 0) 2 ((enc_LeastNode T) policy), .v 0 ((eP3 (eL D.int) (eL (eL D.int)) D.int) scene), .v 1 ((eL D.int) scene.1), .un, .un, .un] (list_l (ix_c 0 (var_ok rfl) c_ok rfl)) rfl
(sm_assoc (sm_N fun peeked h_peeked =>
(sm_asg [.o (w 0) 2 ((enc_LeastNode T) policy), .v 0 ((eP3 (eL D.int) (eL (eL D.int)) D.int) scene), .v 1 ((eL D.int) scene.1), .v 1 ((eL (eL D.int)) peeked), .un, .un] (lc_o (enc := (eL D.int)) (enc2 := (eL D.int)) (it_l (ix_c 1 (var_ok rfl) c_ok rfl)) (fun seen => ⟨[.o (w 0) 2 ((enc_LeastNode T) policy), .v 0 ((eP3 (eL D.int) (eL (eL D.int)) D.int) scene), .v 1 ((eL D.int) scene.1), .un, .un, .v 0 ((eL D.int) seen)], rfl, (st_ok (a := true) ev_true), (se_ok (enc := (eL D.int)) (a := seen) (frz_ok (list_l (var_ok rfl))))⟩) h_peeked) rfl
(sm_assoc (sm_B (E' := (fun (s : O_LeastNode × List Int × Int) (ss : En) => ∃ nx0 : Nat, nx0 ≤ 1 ∧ ss = [.o (w 0) 2 ((enc_LeastNode T) s.1), .v 0 ((eP3 (eL D.int) (eL (eL D.int)) D.int) scene), .v 0 ((eL D.int) s.2.1), .v nx0 ((eL (eL D.int)) peeked), .v 0 (D.int s.2.2), .un])) (rets_rn (P := (fun (b : O_LeastNode) (ss : En) => GetV [some 1, none] (wsL 2 w) [(enc_LeastNode T) b, .non] ss))) (sm_one (sm_if (test_ok (eq_ok (ix_c 2 (var_ok rfl) c_ok rfl) c_ok)) (fun _ =>
(sm_frz [.o (w 0) 2 ((enc_LeastNode T) policy), .v 0 ((eP3 (eL D.int) (eL (eL D.int)) D.int) scene), .v 0 ((eL D.int) scene.1), .v 1 ((eL (eL D.int)) peeked), .un, .un] rfl rfl
(sm_N fun told h_told =>
(sm_st (setX_s [.o (w 0) 2 ((enc_LeastNode T) told.1), .v 0 ((eP3 (eL D.int) (eL (eL D.int)) D.int) scene), .v 0 ((eL D.int) scene.1), .v 1 ((eL (eL D.int)) peeked), .v 0 (D.int told.2), .un] (alt_t (okM_o (gVar_o rfl) rfl (by exact no_LeastNode_pick)) (meth_o (okM_o (gVar_o rfl) rfl (by exact no_LeastNode_pick)) (lend_o [.o (w 0) 2 ((enc_LeastNode T) told.1), .v 0 ((eP3 (eL D.int) (eL (eL D.int)) D.int) scene), .v 0 ((eL D.int) scene.1), .v 1 ((eL (eL D.int)) peeked), .un, .un] (gLn_o (gVar_o rfl) (gDef_o (gFz_o (var_ok rfl) gNil_o))) (show List.Nodup [0] by decide) rfl ((t_LeastNode_pick policy scene.1 none).ok h_told) (putL rfl rfl (putF (putF putN)))))) rfl)
(sm_end ⟨_, by omega, rfl⟩))))) (fun _ =>
(sm_if (test_ok (eq_ok (ix_c 2 (var_ok rfl) c_ok rfl) c_ok)) (fun _ =>
(sm_frz [.o (w 0) 2 ((enc_LeastNode T) policy), .v 0 ((eP3 (eL D.int) (eL (eL D.int)) D.int) scene), .v 0 ((eL D.int) scene.1), .v 1 ((eL (eL D.int)) peeked), .un, .un] rfl rfl
(sm_N fun told1 h_told1 =>
(sm_st (setX_s [.o (w 0) 2 ((enc_LeastNode T) told1.1), .v 0 ((eP3 (eL D.int) (eL (eL D.int)) D.int) scene), .v 0 ((eL D.int) scene.1), .v 1 ((eL (eL D.int)) peeked), .v 0 (D.int told1.2), .un] (alt_t (okM_o (gVar_o rfl) rfl (by exact no_LeastNode_pick)) (meth_o (okM_o (gVar_o rfl) rfl (by exact no_LeastNode_pick)) (lend_o [.o (w 0) 2 ((enc_LeastNode T) told1.1), .v 0 ((eP3 (eL D.int) (eL (eL D.int)) D.int) scene), .v 0 ((eL D.int) scene.1), .v 1 ((eL (eL D.int)) peeked), .un, .un] (gLn_o (gVar_o rfl) (gApp_o (gFz_o (var_ok rfl) gNil_o) (gFz_o (tc ((eN (eL (eL D.int))) none) c_ok) gNil_o) rfl rfl)) (show List.Nodup [0] by decide) rfl ((t_LeastNode_pick policy scene.1 none).ok h_told1) (putL rfl rfl (putF (putF putN)))))) rfl)
(sm_end ⟨_, by omega, rfl⟩))))) (fun _ =>
(sm_frz [.o (w 0) 2 ((enc_LeastNode T) policy), .v 0 ((eP3 (eL D.int) (eL (eL D.int)) D.int) scene), .v 1 ((eL D.int) scene.1), .v 0 ((eL (eL D.int)) peeked), .un, .un] rfl rfl
(sm_frz [.o (w 0) 2 ((enc_LeastNode T) policy), .v 0 ((eP3 (eL D.int) (eL (eL D.int)) D.int) scene), .v 0 ((eL D.int) scene.1), .v 0 ((eL (eL D.int)) peeked), .un, .un] rfl rfl
(sm_N fun told2 h_told2 =>
(sm_st (setX_s [.o (w 0) 2 ((enc_LeastNode T) told2.1), .v 0 ((eP3 (eL D.int) (eL (eL D.int)) D.int) scene), .v 0 ((eL D.int) scene.1), .v 0 ((eL (eL D.int)) peeked), .v 0 (D.int told2.2), .un] (alt_t (okM_o (gVar_o rfl) rfl (by exact no_LeastNode_pick)) (meth_o (okM_o (gVar_o rfl) rfl (by exact no_LeastNode_pick)) (lend_o [.o (w 0) 2 ((enc_LeastNode T) told2.1), .v 0 ((eP3 (eL D.int) (eL (eL D.int)) D.int) scene), .v 0 ((eL D.int) scene.1), .v 0 ((eL (eL D.int)) peeked), .un, .un] (gLn_o (gVar_o rfl) (gApp_o (gFz_o (var_ok rfl) gNil_o) (gFz_o (tc ((eN (eL (eL D.int))) (some peeked)) (var_ok rfl)) gNil_o) rfl rfl)) (show List.Nodup [0] by decide) rfl ((t_LeastNode_pick policy scene.1 (some peeked)).ok h_told2) (putL rfl rfl (putF (putF putN)))))) rfl)
(sm_end ⟨_, by omega, rfl⟩)))))))))) (by
 rintro ⟨policy1, handed, told3⟩ _ ⟨lv, h_lv, rfl⟩
 exact ((sm_assoc (sm_N fun any1 h_any1 =>
(sm_if ((st_or (st_ok (a := (!decide (handed = scene.1))) (test_ok (ne_P (ple_L ple_int) (by decide) (var_ok rfl) (ix_c 0 (var_ok rfl) c_ok rfl)))) (st_bN fun any h_any => (st_ok (a := any) ((st_or (st_ok (a := (!decide (peeked = scene.2.1))) (test_ok (ne_P (ple_L (ple_L ple_int)) (by decide) (var_ok rfl) (ix_c 1 (var_ok rfl) c_ok rfl)))) (st_bN fun law_is_int h_law_is_int => (st_ok (a := (!law_is_int)) (tnot_ok (test_ok (fnF_o (aC_ok (var_ok rfl) ev_nil) ((t_law_is_int told3).ok h_law_is_int))))))).ok h_any)))).ok h_any1) (fun _ =>
(sm_retX (enc := D.int) (P := (fun (b : O_LeastNode) (ss : En) => GetV [some 1, none] (wsL 2 w) [(enc_LeastNode T) b, .non] ss)) (r := (policy1, (-9))) (eM_o (own0_ok (neg_o c_ok))) (And.intro rfl (And.intro rfl True.intro)))) (fun _ =>
(sm_no (sm_retNV (enc := D.int) (P := (fun (b : O_LeastNode) (ss : En) => GetV [some 1, none] (wsL 2 w) [(enc_LeastNode T) b, .non] ss)) (r := (policy1, told3)) rfl (And.intro rfl (And.intro rfl True.intro))))))))))))))))))
/-! ### law_asked_MostLanes -/
noncomputable def p_law_asked_MostLanes (policy : O_MostLanes) (scene : List Int × List (List Int) × Int) : Res (O_MostLanes × Int) := oRes (
  oN (lcR scene.2.1 (fun _ => .ok true) (fun (seen : List Int) => (.ok seen))) fun peeked =>
  oB (if (decide (scene.2.2 = 0)) = true then
    (oN (p_MostLanes_pick policy scene.1 none) fun told =>
      .nx (told.1, scene.1, told.2))
    else
    (if (decide (scene.2.2 = 1)) = true then
      (oN (p_MostLanes_pick policy scene.1 none) fun told1 =>
        .nx (told1.1, scene.1, told1.2))
      else
      (oN (p_MostLanes_pick policy scene.1 (some peeked)) fun told2 =>
        .nx (told2.1, scene.1, told2.2))))
  (fun (s : O_MostLanes × List Int × Int) => match s with | (policy1, handed, told3) => (
      oN (orR (.ok (!decide (handed = scene.1))) (bN (orR (.ok (!decide (peeked = scene.2.1))) (bN (p_law_is_int told3) fun law_is_int => .ok (!law_is_int))) fun any => .ok any)) fun any1 =>
      if any1 = true then
      (.rt (policy1, (-9)))
      else
      (.rt (policy1, told3)))))
theorem t_law_asked_MostLanes (T : Txt P K mg) (policy : O_MostLanes) (scene : List Int × List (List Int) × Int) : SrV 0 D.int (fun (b : O_MostLanes) => [(enc_MostLanes T) b, .non]) [(enc_MostLanes T) policy, .non] ((m_law_asked T) [(enc_MostLanes T) policy, (eP3 (eL D.int) (eL (eL D.int)) D.int) scene]) (p_law_asked_MostLanes policy scene) := by
  unfold m_law_asked p_law_asked_MostLanes
  exact fn_SrV (n := 0) (enc := D.int) (encB := (fun (b : O_MostLanes) => [(enc_MostLanes T) b, .non])) (bx := [(enc_MostLanes T) policy, .non]) (E := fun _ _ => True) (EK := fun _ _ => False) (fun w => [.o (w 0) 2 ((enc_MostLanes T) policy), .v 0 ((eP3 (eL D.int) (eL (eL D.int)) D.int) scene), .un, .un, .un, .un]) rfl (fun _ => rfl) (fun w => sm_one
(sm_assoc (sm_asg [.o (w 0) 2 ((enc_MostLanes T) policy), .v 0 ((eP3 (eL D.int) (eL (eL D.int)) D.int) scene), .v 1 ((eL D.int) scene.1), .un, .un, .un] (list_l (ix_c 0 (var_ok rfl) c_ok rfl)) rfl
(sm_assoc (sm_N fun peeked h_peeked =>
(sm_asg [.o (w 0) 2 ((enc_MostLanes T) policy), .v 0 ((eP3 (eL D.int) (eL (eL D.int)) D.int) scene), .v 1 ((eL D.int) scene.1), .v 1 ((eL (eL D.int)) peeked), .un, .un] (lc_o (enc := (eL D.int)) (enc2 := (eL D.int)) (it_l (ix_c 1 (var_ok rfl) c_ok rfl)) (fun seen => ⟨[.o (w 0) 2 ((enc_MostLanes T) policy), .v 0 ((eP3 (eL D.int) (eL (eL D.int)) D.int) scene), .v 1 ((eL D.int) scene.1), .un, .un, .v 0 ((eL D.int) seen)], rfl, (st_ok (a := true) ev_true), (se_ok (enc := (eL D.int)) (a := seen) (frz_ok (list_l (var_ok rfl))))⟩) h_peeked) rfl
(sm_assoc (sm_B (E' := (fun (s : O_MostLanes × List Int × Int) (ss : En) => ∃ nx0 : Nat, nx0 ≤ 1 ∧ ss = [.o (w 0) 2 ((enc_MostLanes T) s.1), .v 0 ((eP3 (eL D.int) (eL (eL D.int)) D.int) scene), .v 0 ((eL D.int) s.2.1), .v nx0 ((eL (eL D.int)) peeked), .v 0 (D.int s.2.2), .un])) (rets_rn (P := (fun (b : O_MostLanes) (ss : En) => GetV [some 1, none] (wsL 2 w) [(enc_MostLanes T) b, .non] ss))) (sm_one (sm_if (test_ok (eq_ok (ix_c 2 (var_ok rfl) c_ok rfl) c_ok)) (fun _ =>
(sm_frz [.o (w 0) 2 ((enc_MostLanes T) policy), .v 0 ((eP3 (eL D.int) (eL (eL D.int)) D.int) scene), .v 0 ((eL D.int) scene.1), .v 1 ((eL (eL D.int)) peeked), .un, .un] rfl rfl
(sm_N fun told h_told =>
(sm_st (setX_s [.o (w 0) 2 ((enc_MostLanes T) told.1), .v 0 ((eP3 (eL D.int) (eL (eL D.int)) D.int) scene), .v 0 ((eL D.int) scene.1), .v 1 ((eL (eL D.int)) peeked), .v 0 (D.int told.2), .un] (alt_f (okM_n (gVar_o rfl) rfl (nd_ne T.nd_Pol (i := 1) (j := 0) rfl rfl (by decide))) (alt_t (okM_o (gVar_o rfl) rfl (by exact no_MostLanes_pick)) (meth_o (okM_o (gVar_o rfl) rfl (by exact no_MostLanes_pick)) (lend_o [.o (w 0) 2 ((enc_MostLanes T) told.1), .v 0 ((eP3 (eL D.int) (eL (eL D.int)) D.int) scene), .v 0 ((eL D.int) scene.1), .v 1 ((eL (eL D.int)) peeked), .un, .un] (gLn_o (gVar_o rfl) (gDef_o (gFz_o (var_ok rfl) gNil_o))) (show List.Nodup [0] by decide) rfl ((t_MostLanes_pick policy scene.1 none).ok h_told) (putL rfl rfl (putF (putF putN))))))) rfl)
(sm_end ⟨_, by omega, rfl⟩))))) (fun _ =>
(sm_if (test_ok (eq_ok (ix_c 2 (var_ok rfl) c_ok rfl) c_ok)) (fun _ =>
(sm_frz [.o (w 0) 2 ((enc_MostLanes T) policy), .v 0 ((eP3 (eL D.int) (eL (eL D.int)) D.int) scene), .v 0 ((eL D.int) scene.1), .v 1 ((eL (eL D.int)) peeked), .un, .un] rfl rfl
(sm_N fun told1 h_told1 =>
(sm_st (setX_s [.o (w 0) 2 ((enc_MostLanes T) told1.1), .v 0 ((eP3 (eL D.int) (eL (eL D.int)) D.int) scene), .v 0 ((eL D.int) scene.1), .v 1 ((eL (eL D.int)) peeked), .v 0 (D.int told1.2), .un] (alt_f (okM_n (gVar_o rfl) rfl (nd_ne T.nd_Pol (i := 1) (j := 0) rfl rfl (by decide))) (alt_t (okM_o (gVar_o rfl) rfl (by exact no_MostLanes_pick)) (meth_o (okM_o (gVar_o rfl) rfl (by exact no_MostLanes_pick)) (lend_o [.o (w 0) 2 ((enc_MostLanes T) told1.1), .v 0 ((eP3 (eL D.int) (eL (eL D.int)) D.int) scene), .v 0 ((eL D.int) scene.1), .v 1 ((eL (eL D.int)) peeked), .un, .un] (gLn_o (gVar_o rfl) (gApp_o (gFz_o (var_ok rfl) gNil_o) (gFz_o (tc ((eN (eL (eL D.int))) none) c_ok) gNil_o) rfl rfl)) (show List.Nodup [0] by decide) rfl ((t_MostLanes_pick policy scene.1 none).ok h_told1) (putL rfl rfl (putF (putF putN))))))) rfl)
(sm_end ⟨_, by omega, rfl⟩))))) (fun _ =>
(sm_frz [.o (w 0) 2 ((enc_MostLanes T) policy), .v 0 ((eP3 (eL D.int) (eL (eL D.int)) D.int) scene), .v 1 ((eL D.int) scene.1), .v 0 ((eL (eL D.int)) peeked), .un, .un] rfl rfl
(sm_frz [.o (w 0) 2 ((enc_MostLanes T) policy), .v 0 ((eP3 (eL D.int) (eL (eL D.int)) D.int) scene), .v 0 ((eL D.int) scene.1), .v 0 ((eL (eL D.int)) peeked), .un, .un] rfl rfl
(sm_N fun told2 h_told2 =>
(sm_st (setX_s [.o (w 0) 2 ((enc_MostLanes T) told2.1), .v 0 ((eP3 (eL D.int) (eL (eL D.int)) D.int) scene), .v 0 ((eL D.int) scene.1), .v 0 ((eL (eL D.int)) peeked), .v 0 (D.int told2.2), .un] (alt_f (okM_n (gVar_o rfl) rfl (nd_ne T.nd_Pol (i := 1) (j := 0) rfl rfl (by decide))) (alt_t (okM_o (gVar_o rfl) rfl (by exact no_MostLanes_pick)) (meth_o (okM_o (gVar_o rfl) rfl (by exact no_MostLanes_pick)) (lend_o [.o (w 0) 2 ((enc_MostLanes T) told2.1), .v 0 ((eP3 (eL D.int) (eL (eL D.int)) D.int) scene), .v 0 ((eL D.int) scene.1), .v 0 ((eL (eL D.int)) peeked), .un, .un] (gLn_o (gVar_o rfl) (gApp_o (gFz_o (var_ok rfl) gNil_o) (gFz_o (tc ((eN (eL (eL D.int))) (some peeked)) (var_ok rfl)) gNil_o) rfl rfl)) (show List.Nodup [0] by decide) rfl ((t_MostLanes_pick policy scene.1 (some peeked)).ok h_told2) (putL rfl rfl (putF (putF putN))))))) rfl)
(sm_end ⟨_, by omega, rfl⟩)))))))))) (by
 rintro ⟨policy1, handed, told3⟩ _ ⟨lv, h_lv, rfl⟩
 exact ((sm_assoc (sm_N fun any1 h_any1 =>
(sm_if ((st_or (st_ok (a := (!decide (handed = scene.1))) (test_ok (ne_P (ple_L ple_int) (by decide) (var_ok rfl) (ix_c 0 (var_ok rfl) c_ok rfl)))) (st_bN fun any h_any => (st_ok (a := any) ((st_or (st_ok (a := (!decide (peeked = scene.2.1))) (test_ok (ne_P (ple_L (ple_L ple_int)) (by decide) (var_ok rfl) (ix_c 1 (var_ok rfl) c_ok rfl)))) (st_bN fun law_is_int h_law_is_int => (st_ok (a := (!law_is_int)) (tnot_ok (test_ok (fnF_o (aC_ok (var_ok rfl) ev_nil) ((t_law_is_int told3).ok h_law_is_int))))))).ok h_any)))).ok h_any1) (fun _ =>
(sm_retX (enc := D.int) (P := (fun (b : O_MostLanes) (ss : En) => GetV [some 1, none] (wsL 2 w) [(enc_MostLanes T) b, .non] ss)) (r := (policy1, (-9))) (eM_o (own0_ok (neg_o c_ok))) (And.intro rfl (And.intro rfl True.intro)))) (fun _ =>
(sm_no (sm_retNV (enc := D.int) (P := (fun (b : O_MostLanes) (ss : En) => GetV [some 1, none] (wsL 2 w) [(enc_MostLanes T) b, .non] ss)) (r := (policy1, told3)) rfl (And.intro rfl (And.intro rfl True.intro))))))))))))))))))
/-! ### law_asked_ByRow -/
noncomputable def p_law_asked_ByRow (policy : O_ByRow) (scene : List Int × List (List Int) × Int) : Res (O_ByRow × Int) := oRes (
  oN (lcR scene.2.1 (fun _ => .ok true) (fun (seen : List Int) => (.ok seen))) fun peeked =>
  oB (if (decide (scene.2.2 = 0)) = true then
    (oN (p_ByRow_pick policy scene.1 none) fun told =>
      .nx (told.1, scene.1, told.2))
    else
    (if (decide (scene.2.2 = 1)) = true then
      (oN (p_ByRow_pick policy scene.1 none) fun told1 =>
        .nx (told1.1, scene.1, told1.2))
      else
      (oN (p_ByRow_pick policy scene.1 (some peeked)) fun told2 =>
        .nx (told2.1, scene.1, told2.2))))
  (fun (s : O_ByRow × List Int × Int) => match s with | (policy1, handed, told3) => (
      oN (orR (.ok (!decide (handed = scene.1))) (bN (orR (.ok (!decide (peeked = scene.2.1))) (bN (p_law_is_int told3) fun law_is_int => .ok (!law_is_int))) fun any => .ok any)) fun any1 =>
      if any1 = true then
      (.rt (policy1, (-9)))
      else
      (.rt (policy1, told3)))))
theorem t_law_asked_ByRow (T : Txt P K mg) (policy : O_ByRow) (scene : List Int × List (List Int) × Int) : SrV 0 D.int (fun (b : O_ByRow) => [(enc_ByRow T) b, .non]) [(enc_ByRow T) policy, .non] ((m_law_asked T) [(enc_ByRow T) policy, (eP3 (eL D.int) (eL (eL D.int)) D.int) scene]) (p_law_asked_ByRow policy scene) := by
  unfold m_law_asked p_law_asked_ByRow
  exact fn_SrV (n := 0) (enc := D.int) (encB := (fun (b : O_ByRow) => [(enc_ByRow T) b, .non])) (bx := [(enc_ByRow T) policy, .non]) (E := fun _ _ => True) (EK := fun _ _ => False) (fun w => [.o (w 0) 2 ((enc_ByRow T) policy), .v 0 ((eP3 (eL D.int) (eL (eL D.int)) D.int) scene), .un, .un, .un, .un]) rfl (fun _ => rfl) (fun w => sm_one
(sm_assoc (sm_asg [.o (w 0) 2 ((enc_ByRow T) policy), .v 0 ((eP3 (eL D.int) (eL (eL D.int)) D.int) scene), .v 1 ((eL D.int) scene.1), .un, .un, .un] (list_l (ix_c 0 (var_ok rfl) c_ok rfl)) rfl
(sm_assoc (sm_N fun peeked h_peeked =>
(sm_asg [.o (w 0) 2 ((enc_ByRow T) policy), .v 0 ((eP3 (eL D.int) (eL (eL D.int)) D.int) scene), .v 1 ((eL D.int) scene.1), .v 1 ((eL (eL D.int)) peeked), .un, .un] (lc_o (enc := (eL D.int)) (enc2 := (eL D.int)) (it_l (ix_c 1 (var_ok rfl) c_ok rfl)) (fun seen => ⟨[.o (w 0) 2 ((enc_ByRow T) policy), .v 0 ((eP3 (eL D.int) (eL (eL D.int)) D.int) scene), .v 1 ((eL D.int) scene.1), .un, .un, .v 0 ((eL D.int) seen)], rfl, (st_ok (a := true) ev_true), (se_ok (enc := (eL D.int)) (a := seen) (frz_ok (list_l (var_ok rfl))))⟩) h_peeked) rfl
(sm_assoc (sm_B (E' := (fun (s : O_ByRow × List Int × Int) (ss : En) => ∃ nx0 : Nat, nx0 ≤ 1 ∧ ss = [.o (w 0) 2 ((enc_ByRow T) s.1), .v 0 ((eP3 (eL D.int) (eL (eL D.int)) D.int) scene), .v 0 ((eL D.int) s.2.1), .v nx0 ((eL (eL D.int)) peeked), .v 0 (D.int s.2.2), .un])) (rets_rn (P := (fun (b : O_ByRow) (ss : En) => GetV [some 1, none] (wsL 2 w) [(enc_ByRow T) b, .non] ss))) (sm_one (sm_if (test_ok (eq_ok (ix_c 2 (var_ok rfl) c_ok rfl) c_ok)) (fun _ =>
(sm_frz [.o (w 0) 2 ((enc_ByRow T) policy), .v 0 ((eP3 (eL D.int) (eL (eL D.int)) D.int) scene), .v 0 ((eL D.int) scene.1), .v 1 ((eL (eL D.int)) peeked), .un, .un] rfl rfl
(sm_N fun told h_told =>
(sm_st (setX_s [.o (w 0) 2 ((enc_ByRow T) told.1), .v 0 ((eP3 (eL D.int) (eL (eL D.int)) D.int) scene), .v 0 ((eL D.int) scene.1), .v 1 ((eL (eL D.int)) peeked), .v 0 (D.int told.2), .un] (alt_f (okM_n (gVar_o rfl) rfl (nd_ne T.nd_Pol (i := 2) (j := 0) rfl rfl (by decide))) (alt_f (okM_n (gVar_o rfl) rfl (nd_ne T.nd_Pol (i := 2) (j := 1) rfl rfl (by decide))) (alt_t (okM_o (gVar_o rfl) rfl (by exact no_ByRow_pick)) (meth_o (okM_o (gVar_o rfl) rfl (by exact no_ByRow_pick)) (lend_o [.o (w 0) 2 ((enc_ByRow T) told.1), .v 0 ((eP3 (eL D.int) (eL (eL D.int)) D.int) scene), .v 0 ((eL D.int) scene.1), .v 1 ((eL (eL D.int)) peeked), .un, .un] (gLn_o (gVar_o rfl) (gDef_o (gFz_o (var_ok rfl) gNil_o))) (show List.Nodup [0] by decide) rfl ((t_ByRow_pick T policy scene.1 none).ok h_told) (putL rfl rfl (putF (putF putN)))))))) rfl)
(sm_end ⟨_, by omega, rfl⟩))))) (fun _ =>
(sm_if (test_ok (eq_ok (ix_c 2 (var_ok rfl) c_ok rfl) c_ok)) (fun _ =>
(sm_frz [.o (w 0) 2 ((enc_ByRow T) policy), .v 0 ((eP3 (eL D.int) (eL (eL D.int)) D.int) scene), .v 0 ((eL D.int) scene.1), .v 1 ((eL (eL D.int)) peeked), .un, .un] rfl rfl
(sm_N fun told1 h_told1 =>
(sm_st (setX_s [.o (w 0) 2 ((enc_ByRow T) told1.1), .v 0 ((eP3 (eL D.int) (eL (eL D.int)) D.int) scene), .v 0 ((eL D.int) scene.1), .v 1 ((eL (eL D.int)) peeked), .v 0 (D.int told1.2), .un] (alt_f (okM_n (gVar_o rfl) rfl (nd_ne T.nd_Pol (i := 2) (j := 0) rfl rfl (by decide))) (alt_f (okM_n (gVar_o rfl) rfl (nd_ne T.nd_Pol (i := 2) (j := 1) rfl rfl (by decide))) (alt_t (okM_o (gVar_o rfl) rfl (by exact no_ByRow_pick)) (meth_o (okM_o (gVar_o rfl) rfl (by exact no_ByRow_pick)) (lend_o [.o (w 0) 2 ((enc_ByRow T) told1.1), .v 0 ((eP3 (eL D.int) (eL (eL D.int)) D.int) scene), .v 0 ((eL D.int) scene.1), .v 1 ((eL (eL D.int)) peeked), .un, .un] (gLn_o (gVar_o rfl) (gApp_o (gFz_o (var_ok rfl) gNil_o) (gFz_o (tc ((eN (eL (eL D.int))) none) c_ok) gNil_o) rfl rfl)) (show List.Nodup [0] by decide) rfl ((t_ByRow_pick T policy scene.1 none).ok h_told1) (putL rfl rfl (putF (putF putN)))))))) rfl)
(sm_end ⟨_, by omega, rfl⟩))))) (fun _ =>
(sm_frz [.o (w 0) 2 ((enc_ByRow T) policy), .v 0 ((eP3 (eL D.int) (eL (eL D.int)) D.int) scene), .v 1 ((eL D.int) scene.1), .v 0 ((eL (eL D.int)) peeked), .un, .un] rfl rfl
(sm_frz [.o (w 0) 2 ((enc_ByRow T) policy), .v 0 ((eP3 (eL D.int) (eL (eL D.int)) D.int) scene), .v 0 ((eL D.int) scene.1), .v 0 ((eL (eL D.int)) peeked), .un, .un] rfl rfl
(sm_N fun told2 h_told2 =>
(sm_st (setX_s [.o (w 0) 2 ((enc_ByRow T) told2.1), .v 0 ((eP3 (eL D.int) (eL (eL D.int)) D.int) scene), .v 0 ((eL D.int) scene.1), .v 0 ((eL (eL D.int)) peeked), .v 0 (D.int told2.2), .un] (alt_f (okM_n (gVar_o rfl) rfl (nd_ne T.nd_Pol (i := 2) (j := 0) rfl rfl (by decide))) (alt_f (okM_n (gVar_o rfl) rfl (nd_ne T.nd_Pol (i := 2) (j := 1) rfl rfl (by decide))) (alt_t (okM_o (gVar_o rfl) rfl (by exact no_ByRow_pick)) (meth_o (okM_o (gVar_o rfl) rfl (by exact no_ByRow_pick)) (lend_o [.o (w 0) 2 ((enc_ByRow T) told2.1), .v 0 ((eP3 (eL D.int) (eL (eL D.int)) D.int) scene), .v 0 ((eL D.int) scene.1), .v 0 ((eL (eL D.int)) peeked), .un, .un] (gLn_o (gVar_o rfl) (gApp_o (gFz_o (var_ok rfl) gNil_o) (gFz_o (tc ((eN (eL (eL D.int))) (some peeked)) (var_ok rfl)) gNil_o) rfl rfl)) (show List.Nodup [0] by decide) rfl ((t_ByRow_pick T policy scene.1 (some peeked)).ok h_told2) (putL rfl rfl (putF (putF putN)))))))) rfl)
(sm_end ⟨_, by omega, rfl⟩)))))))))) (by
 rintro ⟨policy1, handed, told3⟩ _ ⟨lv, h_lv, rfl⟩
 exact ((sm_assoc (sm_N fun any1 h_any1 =>
(sm_if ((st_or (st_ok (a := (!decide (handed = scene.1))) (test_ok (ne_P (ple_L ple_int) (by decide) (var_ok rfl) (ix_c 0 (var_ok rfl) c_ok rfl)))) (st_bN fun any h_any => (st_ok (a := any) ((st_or (st_ok (a := (!decide (peeked = scene.2.1))) (test_ok (ne_P (ple_L (ple_L ple_int)) (by decide) (var_ok rfl) (ix_c 1 (var_ok rfl) c_ok rfl)))) (st_bN fun law_is_int h_law_is_int => (st_ok (a := (!law_is_int)) (tnot_ok (test_ok (fnF_o (aC_ok (var_ok rfl) ev_nil) ((t_law_is_int told3).ok h_law_is_int))))))).ok h_any)))).ok h_any1) (fun _ =>
(sm_retX (enc := D.int) (P := (fun (b : O_ByRow) (ss : En) => GetV [some 1, none] (wsL 2 w) [(enc_ByRow T) b, .non] ss)) (r := (policy1, (-9))) (eM_o (own0_ok (neg_o c_ok))) (And.intro rfl (And.intro rfl True.intro)))) (fun _ =>
(sm_no (sm_retNV (enc := D.int) (P := (fun (b : O_ByRow) (ss : En) => GetV [some 1, none] (wsL 2 w) [(enc_ByRow T) b, .non] ss)) (r := (policy1, told3)) rfl (And.intro rfl (And.intro rfl True.intro))))))))))))))))))
/-! ### law_asked_Peek -/
noncomputable def p_law_asked_Peek (policy : O_Peek) (scene : List Int × List (List Int) × Int) : Res (O_Peek × Int) := oRes (
  oN (lcR scene.2.1 (fun _ => .ok true) (fun (seen : List Int) => (.ok seen))) fun peeked =>
  oB (if (decide (scene.2.2 = 0)) = true then
    (oN (p_Peek_pick policy scene.1 none) fun told =>
      .nx (told.1, scene.1, told.2))
    else
    (if (decide (scene.2.2 = 1)) = true then
      (oN (p_Peek_pick policy scene.1 none) fun told1 =>
        .nx (told1.1, scene.1, told1.2))
      else
      (oN (p_Peek_pick policy scene.1 (some peeked)) fun told2 =>
        .nx (told2.1, scene.1, told2.2))))
  (fun (s : O_Peek × List Int × Int) => match s with | (policy1, handed, told3) => (
      oN (orR (.ok (!decide (handed = scene.1))) (bN (orR (.ok (!decide (peeked = scene.2.1))) (bN (p_law_is_int told3) fun law_is_int => .ok (!law_is_int))) fun any => .ok any)) fun any1 =>
      if any1 = true then
      (.rt (policy1, (-9)))
      else
      (.rt (policy1, told3)))))
theorem t_law_asked_Peek (T : Txt P K mg) (policy : O_Peek) (scene : List Int × List (List Int) × Int) : SrV 0 D.int (fun (b : O_Peek) => [(enc_Peek T) b, .non]) [(enc_Peek T) policy, .non] ((m_law_asked T) [(enc_Peek T) policy, (eP3 (eL D.int) (eL (eL D.int)) D.int) scene]) (p_law_asked_Peek policy scene) := by
  unfold m_law_asked p_law_asked_Peek
  exact fn_SrV (n := 0) (enc := D.int) (encB := (fun (b : O_Peek) => [(enc_Peek T) b, .non])) (bx := [(enc_Peek T) policy, .non]) (E := fun _ _ => True) (EK := fun _ _ => False) (fun w => [.o (w 0) 2 ((enc_Peek T) policy), .v 0 ((eP3 (eL D.int) (eL (eL D.int)) D.int) scene), .un, .un, .un, .un]) rfl (fun _ => rfl) (fun w => sm_one
(sm_assoc (sm_asg [.o (w 0) 2 ((enc_Peek T) policy), .v 0 ((eP3 (eL D.int) (eL (eL D.int)) D.int) scene), .v 1 ((eL D.int) scene.1), .un, .un, .un] (list_l (ix_c 0 (var_ok rfl) c_ok rfl)) rfl
(sm_assoc (sm_N fun peeked h_peeked =>
(sm_asg [.o (w 0) 2 ((enc_Peek T) policy), .v 0 ((eP3 (eL D.int) (eL (eL D.int)) D.int) scene), .v 1 ((eL D.int) scene.1), .v 1 ((eL (eL D.int)) peeked), .un, .un] (lc_o (enc := (eL D.int)) (enc2 := (eL D.int)) (it_l (ix_c 1 (var_ok rfl) c_ok rfl)) (fun seen => ⟨[.o (w 0) 2 ((enc_Peek T) policy), .v 0 ((eP3 (eL D.int) (eL (eL D.int)) D.int) scene), .v 1 ((eL D.int) scene.1), .un, .un, .v 0 ((eL D.int) seen)], rfl, (st_ok (a := true) ev_true), (se_ok (enc := (eL D.int)) (a := seen) (frz_ok (list_l (var_ok rfl))))⟩) h_peeked) rfl
(sm_assoc (sm_B (E' := (fun (s : O_Peek × List Int × Int) (ss : En) => ∃ nx0 : Nat, nx0 ≤ 1 ∧ ss = [.o (w 0) 2 ((enc_Peek T) s.1), .v 0 ((eP3 (eL D.int) (eL (eL D.int)) D.int) scene), .v 0 ((eL D.int) s.2.1), .v nx0 ((eL (eL D.int)) peeked), .v 0 (D.int s.2.2), .un])) (rets_rn (P := (fun (b : O_Peek) (ss : En) => GetV [some 1, none] (wsL 2 w) [(enc_Peek T) b, .non] ss))) (sm_one (sm_if (test_ok (eq_ok (ix_c 2 (var_ok rfl) c_ok rfl) c_ok)) (fun _ =>
(sm_frz [.o (w 0) 2 ((enc_Peek T) policy), .v 0 ((eP3 (eL D.int) (eL (eL D.int)) D.int) scene), .v 0 ((eL D.int) scene.1), .v 1 ((eL (eL D.int)) peeked), .un, .un] rfl rfl
(sm_N fun told h_told =>
(sm_st (setX_s [.o (w 0) 2 ((enc_Peek T) told.1), .v 0 ((eP3 (eL D.int) (eL (eL D.int)) D.int) scene), .v 0 ((eL D.int) scene.1), .v 1 ((eL (eL D.int)) peeked), .v 0 (D.int told.2), .un] (alt_f (okM_n (gVar_o rfl) rfl (nd_ne T.nd_Pol (i := 3) (j := 0) rfl rfl (by decide))) (alt_f (okM_n (gVar_o rfl) rfl (nd_ne T.nd_Pol (i := 3) (j := 1) rfl rfl (by decide))) (alt_f (okM_n (gVar_o rfl) rfl (nd_ne T.nd_Pol (i := 3) (j := 2) rfl rfl (by decide))) (alt_t (okM_o (gVar_o rfl) rfl (by exact no_Peek_pick)) (meth_o (okM_o (gVar_o rfl) rfl (by exact no_Peek_pick)) (lend_o [.o (w 0) 2 ((enc_Peek T) told.1), .v 0 ((eP3 (eL D.int) (eL (eL D.int)) D.int) scene), .v 0 ((eL D.int) scene.1), .v 1 ((eL (eL D.int)) peeked), .un, .un] (gLn_o (gVar_o rfl) (gDef_o (gFz_o (var_ok rfl) gNil_o))) (show List.Nodup [0] by decide) rfl ((t_Peek_pick policy scene.1 none).ok h_told) (putL rfl rfl (putF (putF putN))))))))) rfl)
(sm_end ⟨_, by omega, rfl⟩))))) (fun _ =>
(sm_if (test_ok (eq_ok (ix_c 2 (var_ok rfl) c_ok rfl) c_ok)) (fun _ =>
(sm_frz [.o (w 0) 2 ((enc_Peek T) policy), .v 0 ((eP3 (eL D.int) (eL (eL D.int)) D.int) scene), .v 0 ((eL D.int) scene.1), .v 1 ((eL (eL D.int)) peeked), .un, .un] rfl rfl
(sm_N fun told1 h_told1 =>
(sm_st (setX_s [.o (w 0) 2 ((enc_Peek T) told1.1), .v 0 ((eP3 (eL D.int) (eL (eL D.int)) D.int) scene), .v 0 ((eL D.int) scene.1), .v 1 ((eL (eL D.int)) peeked), .v 0 (D.int told1.2), .un] (alt_f (okM_n (gVar_o rfl) rfl (nd_ne T.nd_Pol (i := 3) (j := 0) rfl rfl (by decide))) (alt_f (okM_n (gVar_o rfl) rfl (nd_ne T.nd_Pol (i := 3) (j := 1) rfl rfl (by decide))) (alt_f (okM_n (gVar_o rfl) rfl (nd_ne T.nd_Pol (i := 3) (j := 2) rfl rfl (by decide))) (alt_t (okM_o (gVar_o rfl) rfl (by exact no_Peek_pick)) (meth_o (okM_o (gVar_o rfl) rfl (by exact no_Peek_pick)) (lend_o [.o (w 0) 2 ((enc_Peek T) told1.1), .v 0 ((eP3 (eL D.int) (eL (eL D.int)) D.int) scene), .v 0 ((eL D.int) scene.1), .v 1 ((eL (eL D.int)) peeked), .un, .un] (gLn_o (gVar_o rfl) (gApp_o (gFz_o (var_ok rfl) gNil_o) (gFz_o (tc ((eN (eL (eL D.int))) none) c_ok) gNil_o) rfl rfl)) (show List.Nodup [0] by decide) rfl ((t_Peek_pick policy scene.1 none).ok h_told1) (putL rfl rfl (putF (putF putN))))))))) rfl)
(sm_end ⟨_, by omega, rfl⟩))))) (fun _ =>
(sm_frz [.o (w 0) 2 ((enc_Peek T) policy), .v 0 ((eP3 (eL D.int) (eL (eL D.int)) D.int) scene), .v 1 ((eL D.int) scene.1), .v 0 ((eL (eL D.int)) peeked), .un, .un] rfl rfl
(sm_frz [.o (w 0) 2 ((enc_Peek T) policy), .v 0 ((eP3 (eL D.int) (eL (eL D.int)) D.int) scene), .v 0 ((eL D.int) scene.1), .v 0 ((eL (eL D.int)) peeked), .un, .un] rfl rfl
(sm_N fun told2 h_told2 =>
(sm_st (setX_s [.o (w 0) 2 ((enc_Peek T) told2.1), .v 0 ((eP3 (eL D.int) (eL (eL D.int)) D.int) scene), .v 0 ((eL D.int) scene.1), .v 0 ((eL (eL D.int)) peeked), .v 0 (D.int told2.2), .un] (alt_f (okM_n (gVar_o rfl) rfl (nd_ne T.nd_Pol (i := 3) (j := 0) rfl rfl (by decide))) (alt_f (okM_n (gVar_o rfl) rfl (nd_ne T.nd_Pol (i := 3) (j := 1) rfl rfl (by decide))) (alt_f (okM_n (gVar_o rfl) rfl (nd_ne T.nd_Pol (i := 3) (j := 2) rfl rfl (by decide))) (alt_t (okM_o (gVar_o rfl) rfl (by exact no_Peek_pick)) (meth_o (okM_o (gVar_o rfl) rfl (by exact no_Peek_pick)) (lend_o [.o (w 0) 2 ((enc_Peek T) told2.1), .v 0 ((eP3 (eL D.int) (eL (eL D.int)) D.int) scene), .v 0 ((eL D.int) scene.1), .v 0 ((eL (eL D.int)) peeked), .un, .un] (gLn_o (gVar_o rfl) (gApp_o (gFz_o (var_ok rfl) gNil_o) (gFz_o (tc ((eN (eL (eL D.int))) (some peeked)) (var_ok rfl)) gNil_o) rfl rfl)) (show List.Nodup [0] by decide) rfl ((t_Peek_pick policy scene.1 (some peeked)).ok h_told2) (putL rfl rfl (putF (putF putN))))))))) rfl)
(sm_end ⟨_, by omega, rfl⟩)))))))))) (by
 rintro ⟨policy1, handed, told3⟩ _ ⟨lv, h_lv, rfl⟩
 exact ((sm_assoc (sm_N fun any1 h_any1 =>
(sm_if ((st_or (st_ok (a := (!decide (handed = scene.1))) (test_ok (ne_P (ple_L ple_int) (by decide) (var_ok rfl) (ix_c 0 (var_ok rfl) c_ok rfl)))) (st_bN fun any h_any => (st_ok (a := any) ((st_or (st_ok (a := (!decide (peeked = scene.2.1))) (test_ok (ne_P (ple_L (ple_L ple_int)) (by decide) (var_ok rfl) (ix_c 1 (var_ok rfl) c_ok rfl)))) (st_bN fun law_is_int h_law_is_int => (st_ok (a := (!law_is_int)) (tnot_ok (test_ok (fnF_o (aC_ok (var_ok rfl) ev_nil) ((t_law_is_int told3).ok h_law_is_int))))))).ok h_any)))).ok h_any1) (fun _ =>
(sm_retX (enc := D.int) (P := (fun (b : O_Peek) (ss : En) => GetV [some 1, none] (wsL 2 w) [(enc_Peek T) b, .non] ss)) (r := (policy1, (-9))) (eM_o (own0_ok (neg_o c_ok))) (And.intro rfl (And.intro rfl True.intro)))) (fun _ =>
(sm_no (sm_retNV (enc := D.int) (P := (fun (b : O_Peek) (ss : En) => GetV [some 1, none] (wsL 2 w) [(enc_Peek T) b, .non] ss)) (r := (policy1, told3)) rfl (And.intro rfl (And.intro rfl True.intro))))))))))))))))))
/-! ### law_asked_Fixed -/
noncomputable def p_law_asked_Fixed (policy : O_Fixed) (scene : List Int × List (List Int) × Int) : Res (O_Fixed × Int) := oRes (
  oN (lcR scene.2.1 (fun _ => .ok true) (fun (seen : List Int) => (.ok seen))) fun peeked =>
  oB (if (decide (scene.2.2 = 0)) = true then
    (oN (p_Fixed_pick policy scene.1 none) fun told =>
      .nx (told.1, scene.1, told.2))
    else
    (if (decide (scene.2.2 = 1)) = true then
      (oN (p_Fixed_pick policy scene.1 none) fun told1 =>
        .nx (told1.1, scene.1, told1.2))
      else
      (oN (p_Fixed_pick policy scene.1 (some peeked)) fun told2 =>
        .nx (told2.1, scene.1, told2.2))))
  (fun (s : O_Fixed × List Int × Int) => match s with | (policy1, handed, told3) => (
      oN (orR (.ok (!decide (handed = scene.1))) (bN (orR (.ok (!decide (peeked = scene.2.1))) (bN (p_law_is_int told3) fun law_is_int => .ok (!law_is_int))) fun any => .ok any)) fun any1 =>
      if any1 = true then
      (.rt (policy1, (-9)))
      else
      (.rt (policy1, told3)))))
theorem t_law_asked_Fixed (T : Txt P K mg) (policy : O_Fixed) (scene : List Int × List (List Int) × Int) : SrV 0 D.int (fun (b : O_Fixed) => [(enc_Fixed T) b, .non]) [(enc_Fixed T) policy, .non] ((m_law_asked T) [(enc_Fixed T) policy, (eP3 (eL D.int) (eL (eL D.int)) D.int) scene]) (p_law_asked_Fixed policy scene) := by
  unfold m_law_asked p_law_asked_Fixed
  exact fn_SrV (n := 0) (enc := D.int) (encB := (fun (b : O_Fixed) => [(enc_Fixed T) b, .non])) (bx := [(enc_Fixed T) policy, .non]) (E := fun _ _ => True) (EK := fun _ _ => False) (fun w => [.o (w 0) 2 ((enc_Fixed T) policy), .v 0 ((eP3 (eL D.int) (eL (eL D.int)) D.int) scene), .un, .un, .un, .un]) rfl (fun _ => rfl) (fun w => sm_one
(sm_assoc (sm_asg [.o (w 0) 2 ((enc_Fixed T) policy), .v 0 ((eP3 (eL D.int) (eL (eL D.int)) D.int) scene), .v 1 ((eL D.int) scene.1), .un, .un, .un] (list_l (ix_c 0 (var_ok rfl) c_ok rfl)) rfl
(sm_assoc (sm_N fun peeked h_peeked =>
(sm_asg [.o (w 0) 2 ((enc_Fixed T) policy), .v 0 ((eP3 (eL D.int) (eL (eL D.int)) D.int) scene), .v 1 ((eL D.int) scene.1), .v 1 ((eL (eL D.int)) peeked), .un, .un] (lc_o (enc := (eL D.int)) (enc2 := (eL D.int)) (it_l (ix_c 1 (var_ok rfl) c_ok rfl)) (fun seen => ⟨[.o (w 0) 2 ((enc_Fixed T) policy), .v 0 ((eP3 (eL D.int) (eL (eL D.int)) D.int) scene), .v 1 ((eL D.int) scene.1), .un, .un, .v 0 ((eL D.int) seen)], rfl, (st_ok (a := true) ev_true), (se_ok (enc := (eL D.int)) (a := seen) (frz_ok (list_l (var_ok rfl))))⟩) h_peeked) rfl
(sm_assoc (sm_B (E' := (fun (s : O_Fixed × List Int × Int) (ss : En) => ∃ nx0 : Nat, nx0 ≤ 1 ∧ ss = [.o (w 0) 2 ((enc_Fixed T) s.1), .v 0 ((eP3 (eL D.int) (eL (eL D.int)) D.int) scene), .v 0 ((eL D.int) s.2.1), .v nx0 ((eL (eL D.int)) peeked), .v 0 (D.int s.2.2), .un])) (rets_rn (P := (fun (b : O_Fixed) (ss : En) => GetV [some 1, none] (wsL 2 w) [(enc_Fixed T) b, .non] ss))) (sm_one (sm_if (test_ok (eq_ok (ix_c 2 (var_ok rfl) c_ok rfl) c_ok)) (fun _ =>
(sm_frz [.o (w 0) 2 ((enc_Fixed T) policy), .v 0 ((eP3 (eL D.int) (eL (eL D.int)) D.int) scene), .v 0 ((eL D.int) scene.1), .v 1 ((eL (eL D.int)) peeked), .un, .un] rfl rfl
(sm_N fun told h_told =>
(sm_st (setX_s [.o (w 0) 2 ((enc_Fixed T) told.1), .v 0 ((eP3 (eL D.int) (eL (eL D.int)) D.int) scene), .v 0 ((eL D.int) scene.1), .v 1 ((eL (eL D.int)) peeked), .v 0 (D.int told.2), .un] (alt_f (okM_n (gVar_o rfl) rfl (nd_ne T.nd_Pol (i := 4) (j := 0) rfl rfl (by decide))) (alt_f (okM_n (gVar_o rfl) rfl (nd_ne T.nd_Pol (i := 4) (j := 1) rfl rfl (by decide))) (alt_f (okM_n (gVar_o rfl) rfl (nd_ne T.nd_Pol (i := 4) (j := 2) rfl rfl (by decide))) (alt_f (okM_n (gVar_o rfl) rfl (nd_ne T.nd_Pol (i := 4) (j := 3) rfl rfl (by decide))) (meth_o (okM_o (gVar_o rfl) rfl (by exact no_Fixed_pick)) (lend_o [.o (w 0) 2 ((enc_Fixed T) told.1), .v 0 ((eP3 (eL D.int) (eL (eL D.int)) D.int) scene), .v 0 ((eL D.int) scene.1), .v 1 ((eL (eL D.int)) peeked), .un, .un] (gLn_o (gVar_o rfl) (gDef_o (gFz_o (var_ok rfl) gNil_o))) (show List.Nodup [0] by decide) rfl ((t_Fixed_pick T policy scene.1 none).ok h_told) (putL rfl rfl (putF (putF putN))))))))) rfl)
(sm_end ⟨_, by omega, rfl⟩))))) (fun _ =>
(sm_if (test_ok (eq_ok (ix_c 2 (var_ok rfl) c_ok rfl) c_ok)) (fun _ =>
(sm_frz [.o (w 0) 2 ((enc_Fixed T) policy), .v 0 ((eP3 (eL D.int) (eL (eL D.int)) D.int) scene), .v 0 ((eL D.int) scene.1), .v 1 ((eL (eL D.int)) peeked), .un, .un] rfl rfl
(sm_N fun told1 h_told1 =>
(sm_st (setX_s [.o (w 0) 2 ((enc_Fixed T) told1.1), .v 0 ((eP3 (eL D.int) (eL (eL D.int)) D.int) scene), .v 0 ((eL D.int) scene.1), .v 1 ((eL (eL D.int)) peeked), .v 0 (D.int told1.2), .un] (alt_f (okM_n (gVar_o rfl) rfl (nd_ne T.nd_Pol (i := 4) (j := 0) rfl rfl (by decide))) (alt_f (okM_n (gVar_o rfl) rfl (nd_ne T.nd_Pol (i := 4) (j := 1) rfl rfl (by decide))) (alt_f (okM_n (gVar_o rfl) rfl (nd_ne T.nd_Pol (i := 4) (j := 2) rfl rfl (by decide))) (alt_f (okM_n (gVar_o rfl) rfl (nd_ne T.nd_Pol (i := 4) (j := 3) rfl rfl (by decide))) (meth_o (okM_o (gVar_o rfl) rfl (by exact no_Fixed_pick)) (lend_o [.o (w 0) 2 ((enc_Fixed T) told1.1), .v 0 ((eP3 (eL D.int) (eL (eL D.int)) D.int) scene), .v 0 ((eL D.int) scene.1), .v 1 ((eL (eL D.int)) peeked), .un, .un] (gLn_o (gVar_o rfl) (gApp_o (gFz_o (var_ok rfl) gNil_o) (gFz_o (tc ((eN (eL (eL D.int))) none) c_ok) gNil_o) rfl rfl)) (show List.Nodup [0] by decide) rfl ((t_Fixed_pick T policy scene.1 none).ok h_told1) (putL rfl rfl (putF (putF putN))))))))) rfl)
(sm_end ⟨_, by omega, rfl⟩))))) (fun _ =>
(sm_frz [.o (w 0) 2 ((enc_Fixed T) policy), .v 0 ((eP3 (eL D.int) (eL (eL D.int)) D.int) scene), .v 1 ((eL D.int) scene.1), .v 0 ((eL (eL D.int)) peeked), .un, .un] rfl rfl
(sm_frz [.o (w 0) 2 ((enc_Fixed T) policy), .v 0 ((eP3 (eL D.int) (eL (eL D.int)) D.int) scene), .v 0 ((eL D.int) scene.1), .v 0 ((eL (eL D.int)) peeked), .un, .un] rfl rfl
(sm_N fun told2 h_told2 =>
(sm_st (setX_s [.o (w 0) 2 ((enc_Fixed T) told2.1), .v 0 ((eP3 (eL D.int) (eL (eL D.int)) D.int) scene), .v 0 ((eL D.int) scene.1), .v 0 ((eL (eL D.int)) peeked), .v 0 (D.int told2.2), .un] (alt_f (okM_n (gVar_o rfl) rfl (nd_ne T.nd_Pol (i := 4) (j := 0) rfl rfl (by decide))) (alt_f (okM_n (gVar_o rfl) rfl (nd_ne T.nd_Pol (i := 4) (j := 1) rfl rfl (by decide))) (alt_f (okM_n (gVar_o rfl) rfl (nd_ne T.nd_Pol (i := 4) (j := 2) rfl rfl (by decide))) (alt_f (okM_n (gVar_o rfl) rfl (nd_ne T.nd_Pol (i := 4) (j := 3) rfl rfl (by decide))) (meth_o (okM_o (gVar_o rfl) rfl (by exact no_Fixed_pick)) (lend_o [.o (w 0) 2 ((enc_Fixed T) told2.1), .v 0 ((eP3 (eL D.int) (eL (eL D.int)) D.int) scene), .v 0 ((eL D.int) scene.1), .v 0 ((eL (eL D.int)) peeked), .un, .un] (gLn_o (gVar_o rfl) (gApp_o (gFz_o (var_ok rfl) gNil_o) (gFz_o (tc ((eN (eL (eL D.int))) (some peeked)) (var_ok rfl)) gNil_o) rfl rfl)) (show List.Nodup [0] by decide) rfl ((t_Fixed_pick T policy scene.1 (some peeked)).ok h_told2) (putL rfl rfl (putF (putF putN))))))))) rfl)
(sm_end ⟨_, by omega, rfl⟩)))))))))) (by
 rintro ⟨policy1, handed, told3⟩ _ ⟨lv, h_lv, rfl⟩
 exact ((sm_assoc (sm_N fun any1 h_any1 =>
(sm_if ((st_or (st_ok (a := (!decide (handed = scene.1))) (test_ok (ne_P (ple_L ple_int) (by decide) (var_ok rfl) (ix_c 0 (var_ok rfl) c_ok rfl)))) (st_bN fun any h_any => (st_ok (a := any) ((st_or (st_ok (a := (!decide (peeked = scene.2.1))) (test_ok (ne_P (ple_L (ple_L ple_int)) (by decide) (var_ok rfl) (ix_c 1 (var_ok rfl) c_ok rfl)))) (st_bN fun law_is_int h_law_is_int => (st_ok (a := (!law_is_int)) (tnot_ok (test_ok (fnF_o (aC_ok (var_ok rfl) ev_nil) ((t_law_is_int told3).ok h_law_is_int))))))).ok h_any)))).ok h_any1) (fun _ =>
(sm_retX (enc := D.int) (P := (fun (b : O_Fixed) (ss : En) => GetV [some 1, none] (wsL 2 w) [(enc_Fixed T) b, .non] ss)) (r := (policy1, (-9))) (eM_o (own0_ok (neg_o c_ok))) (And.intro rfl (And.intro rfl True.intro)))) (fun _ =>
(sm_no (sm_retNV (enc := D.int) (P := (fun (b : O_Fixed) (ss : En) => GetV [some 1, none] (wsL 2 w) [(enc_Fixed T) b, .non] ss)) (r := (policy1, told3)) rfl (And.intro rfl (And.intro rfl True.intro))))))))))))))))))
noncomputable def p_law_asked (x0 : O_Pol) (x1 : List Int × List (List Int) × Int) : Res (O_Pol × Int) := match x0 with
  | .LeastNode o => mapP O_Pol.LeastNode (p_law_asked_LeastNode o x1)
  | .MostLanes o => mapP O_Pol.MostLanes (p_law_asked_MostLanes o x1)
  | .ByRow o => mapP O_Pol.ByRow (p_law_asked_ByRow o x1)
  | .Peek o => mapP O_Pol.Peek (p_law_asked_Peek o x1)
  | .Fixed o => mapP O_Pol.Fixed (p_law_asked_Fixed o x1)
theorem t_law_asked (T : Txt P K mg) (x0 : O_Pol) (x1 : List Int × List (List Int) × Int) : SrV 0 D.int (fun (b : O_Pol) => [enc_Pol T b, .non]) [enc_Pol T x0, .non] (m_law_asked T [(enc_Pol T) x0, (eP3 (eL D.int) (eL (eL D.int)) D.int) x1]) (p_law_asked x0 x1) := by
  cases x0 with
  | LeastNode o => exact srv_map O_Pol.LeastNode (t_law_asked_LeastNode T o x1) (fun _ => rfl)
  | MostLanes o => exact srv_map O_Pol.MostLanes (t_law_asked_MostLanes T o x1) (fun _ => rfl)
  | ByRow o => exact srv_map O_Pol.ByRow (t_law_asked_ByRow T o x1) (fun _ => rfl)
  | Peek o => exact srv_map O_Pol.Peek (t_law_asked_Peek T o x1) (fun _ => rfl)
  | Fixed o => exact srv_map O_Pol.Fixed (t_law_asked_Fixed T o x1) (fun _ => rfl)
/-! ### ByRow_init -/
noncomputable def p_ByRow_init (row : List Int) : Res (O_ByRow × Unit) := oResV (
  .nx (row, 0))
theorem t_ByRow_init (T : Txt P K mg) (row : List Int) : SrV 0 eU (fun (b : O_ByRow) => [(enc_ByRow T) b, (eL D.int) row]) [(.ob T.C_ByRow []), (eL D.int) row] ((m_ByRow_init T) [(.ob T.C_ByRow []), (eL D.int) row]) (p_ByRow_init row) := by
  unfold m_ByRow_init p_ByRow_init
  exact fn_SrVN (encB := (fun (b : O_ByRow) => [(enc_ByRow T) b, (eL D.int) row])) (bx := [(.ob T.C_ByRow []), (eL D.int) row]) (EK := fun _ _ => False) (fun w => [.o (w 0) 2 (.ob T.C_ByRow []), .o (w 1) 1 ((eL D.int) row)]) rfl (fun _ => rfl) (fun w => sm_one
(sm_assoc (sm_st (setFP_s [.o (w 0) 2 (.ob T.C_ByRow [("numbers", (eL D.int) row)]), .o (w 1) 1 ((eL D.int) row)] (list_l (varo_ok rfl)) (gVar_o rfl) rfl (Nat.le_of_ble_eq_true rfl) (Or.inl ⟨rfl, (up_same _ _)⟩) rfl)
(sm_st (setFP_s [.o (w 0) 2 (.ob T.C_ByRow [("numbers", (eL D.int) row), ("picks", D.int 0)]), .o (w 1) 1 ((eL D.int) row)] (own0_ok c_ok) (gVar_o rfl) rfl (Nat.le_of_ble_eq_true rfl) (Or.inr ⟨rfl, rfl⟩) rfl)
(sm_end (And.intro rfl (And.intro rfl True.intro)))))))
/-! ### Fixed_init -/
noncomputable def p_Fixed_init (row : List Int) : Res (O_Fixed × Unit) := oResV (
  .nx (row, 0))
theorem t_Fixed_init (T : Txt P K mg) (row : List Int) : SrV 0 eU (fun (b : O_Fixed) => [(enc_Fixed T) b, (eL D.int) row]) [(.ob T.C_Fixed []), (eL D.int) row] ((m_Fixed_init T) [(.ob T.C_Fixed []), (eL D.int) row]) (p_Fixed_init row) := by
  unfold m_Fixed_init p_Fixed_init
  exact fn_SrVN (encB := (fun (b : O_Fixed) => [(enc_Fixed T) b, (eL D.int) row])) (bx := [(.ob T.C_Fixed []), (eL D.int) row]) (EK := fun _ _ => False) (fun w => [.o (w 0) 2 (.ob T.C_Fixed []), .o (w 1) 1 ((eL D.int) row)]) rfl (fun _ => rfl) (fun w => sm_one
(sm_assoc (sm_st (setFP_s [.o (w 0) 2 (.ob T.C_Fixed [("listed", (eT D.int) row)]), .o (w 1) 1 ((eL D.int) row)] (own0_ok (tupof_l (varo_ok rfl))) (gVar_o rfl) rfl (Nat.le_of_ble_eq_true rfl) (Or.inr ⟨rfl, rfl⟩) rfl)
(sm_st (setFP_s [.o (w 0) 2 (.ob T.C_Fixed [("listed", (eT D.int) row), ("asked", D.int 0)]), .o (w 1) 1 ((eL D.int) row)] (own0_ok c_ok) (gVar_o rfl) rfl (Nat.le_of_ble_eq_true rfl) (Or.inr ⟨rfl, rfl⟩) rfl)
(sm_end (And.intro rfl (And.intro rfl True.intro)))))))
/-! ### law -/
noncomputable def p_law (script : List Int) : Res Bool := oRes (
  oN (p_law_seed script 0) fun law_seed =>
  oN (p_law_digits law_seed 1 55440) fun law_digits =>
  oN (ixR law_digits 0) fun at0 =>
  lt ((1 + (at0 % 6))) fun count =>
  oN (rngR count) fun rng =>
  oN (lcR rng (fun _ => .ok true) (fun (k : Int) => (bN (p_law_seed script (1 + k)) fun law_seed1 => bN (p_law_scene law_seed1) fun law_scene => .ok law_scene))) fun scenes =>
  oN (p_law_seed script 7) fun law_seed2 =>
  oN (p_law_numbers law_seed2) fun law_numbers =>
  oN (p_law_seed script 8) fun law_seed3 =>
  oN (p_law_numbers law_seed3) fun law_numbers1 =>
  lt (([law_numbers, law_numbers1] : List (List Int))) fun numbers =>
  oN (lcR numbers (fun _ => .ok true) (fun (row : List Int) => (.ok row))) fun passed =>
  oN (atR passed 0) fun spot =>
  oN (p_ByRow_init spot.2) fun r =>
  oN (atR passed 0) fun spot1 =>
  oN (p_Fixed_init spot1.2) fun r1 =>
  lt ([.LeastNode (), .MostLanes (), .ByRow r.1, .Peek (), .Fixed r1.1] : List O_Pol) fun first0 =>
  oN (atR passed 1) fun spot2 =>
  oN (p_ByRow_init spot2.2) fun r2 =>
  oN (atR passed 1) fun spot3 =>
  oN (p_Fixed_init spot3.2) fun r3 =>
  lt ([.LeastNode (), .MostLanes (), .ByRow r2.1, .Peek (), .Fixed r3.1] : List O_Pol) fun second0 =>
  if (!decide (passed = numbers)) = true then
  (.rt false)
  else
  (oN (atR passed 0) fun spot4 =>
    oN (ins0R spot4.2 5) fun row1 =>
    oN (atR (passed.set spot4.1 row1) 1) fun spot5 =>
    oN (ins0R spot5.2 3) fun row2 =>
    oN (rngR count) fun rng1 =>
    oB (oFor (fun (k1 : Int) => fun (s : List O_Pol × List O_Pol) => match s with | (first1, second1) => (
          oN (ixR scenes k1) fun scene =>
          oN (modR (k1 + 1) count) fun mod0 =>
          oN (ixR scenes mod0) fun ahead =>
          oN (ixR numbers 0) fun at1 =>
          oN (p_law_dues scene at1 k1) fun dues =>
          oN (ixR numbers 1) fun at2 =>
          oN (p_law_dues ahead at2 k1) fun later =>
          oN (rngR 5) fun rng2 =>
          oB (oFor (fun (j7 : Int) => fun (s : List O_Pol × List O_Pol) => match s with | (first2, second2) => (
                oN (atR first2 j7) fun spot6 =>
                oN (p_law_asked spot6.2 scene) fun r4 =>
                oN (ixR dues j7) fun at3 =>
                if (!decide (r4.2 = at3)) = true then
                (.rt false)
                else
                (oN (atR second2 j7) fun spot7 =>
                  oN (p_law_asked spot7.2 ahead) fun r5 =>
                  oN (ixR later j7) fun at4 =>
                  if (!decide (r5.2 = at4)) = true then
                  (.rt false)
                  else
                  (.nx ((first2.set spot6.1 r4.1), (second2.set spot7.1 r5.1)))))) rng2 (first1, second1))
          (fun (s : List O_Pol × List O_Pol) => match s with | (first3, second3) => (
              .nx (first3, second3))))) rng1 (first0, second0))
    (fun (s : List O_Pol × List O_Pol) => match s with | (first4, second4) => (
        .rt true))))
theorem t_law (T : Txt P K mg) (script : List Int) : Sr 0 D.bl ((m_law T) [(eR D.int) script]) (p_law script) := by
  unfold m_law p_law
  exact fn_Sr (n := 0) (enc := D.bl) (E := fun _ _ => True) (EK := fun _ _ => False) (EX := fun _ => True) [.v 0 ((eR D.int) script), .un, .un, .un, .un, .un, .un, .un, .un, .un, .un, .un, .un, .un] rfl rfl (sm_one
(sm_assoc (sm_N fun law_seed h_law_seed =>
(sm_N fun law_digits h_law_digits =>
(sm_N fun at0 h_at0 =>
(sm_lt fun count h_count =>
(sm_asg [.v 0 ((eR D.int) script), .v 0 (D.int count), .un, .un, .un, .un, .un, .un, .un, .un, .un, .un, .un, .un] (tr (enc := D.int) (own0_ok (add_ok c_ok (mod_l (toi_o (ix_l (enc := D.int) (xs := law_digits) (frz_ok (fn_o (a0_ok (fnF_o (aC_ok (var_ok rfl) (aC_ok c_ok ev_nil)) ((t_law_seed script 0).ok h_law_seed)) (a0_ok c_ok (a0_ok c_ok ev_nil))) ((t_law_digits law_seed 1 55440).ok h_law_digits))) c_ok h_at0)) c_ok))) h_count) rfl
(sm_assoc (sm_N fun rng h_rng =>
(sm_N fun scenes h_scenes =>
(sm_asg [.v 0 ((eR D.int) script), .v 0 (D.int count), .v 1 ((eL (eP3 (eL D.int) (eL (eL D.int)) D.int)) scenes), .un, .un, .un, .un, .un, .un, .un, .un, .un, .un, .un] (lc_o (enc := D.int) (enc2 := (eP3 (eL D.int) (eL (eL D.int)) D.int)) (it_1 (var_ok rfl) h_rng) (fun k => ⟨[.v 0 ((eR D.int) script), .v 0 (D.int count), .un, .un, .un, .un, .un, .v 0 (D.int k), .un, .un, .un, .un, .un, .un], rfl, (st_ok (a := true) ev_true), (se_bN fun law_seed1 h_law_seed1 => (se_bN fun law_scene h_law_scene => (se_ok (enc := (eP3 (eL D.int) (eL (eL D.int)) D.int)) (a := law_scene) (frz_ok (fn_o (a0_ok (fnF_o (aC_ok (var_ok rfl) (aC_ok (add_ok c_ok (var_ok rfl)) ev_nil)) ((t_law_seed script (1 + k)).ok h_law_seed1)) ev_nil) ((t_law_scene law_seed1).ok h_law_scene))))))⟩) h_scenes) rfl
(sm_assoc (sm_N fun law_seed2 h_law_seed2 =>
(sm_N fun law_numbers h_law_numbers =>
(sm_N fun law_seed3 h_law_seed3 =>
(sm_N fun law_numbers1 h_law_numbers1 =>
(sm_lt fun numbers h_numbers =>
(sm_asg [.v 0 ((eR D.int) script), .v 0 (D.int count), .v 1 ((eL (eP3 (eL D.int) (eL (eL D.int)) D.int)) scenes), .v 1 ((eL (eL D.int)) numbers), .un, .un, .un, .un, .un, .un, .un, .un, .un, .un] (tr (enc := (eL (eL D.int))) (lst_o (enc := (eL D.int)) (a_con (enc := (eL D.int)) (v := law_numbers) (frz_ok (fn_o (a0_ok (fnF_o (aC_ok (var_ok rfl) (aC_ok c_ok ev_nil)) ((t_law_seed script 7).ok h_law_seed2)) ev_nil) ((t_law_numbers law_seed2).ok h_law_numbers))) (a_con (enc := (eL D.int)) (v := law_numbers1) (frz_ok (fn_o (a0_ok (fnF_o (aC_ok (var_ok rfl) (aC_ok c_ok ev_nil)) ((t_law_seed script 8).ok h_law_seed3)) ev_nil) ((t_law_numbers law_seed3).ok h_law_numbers1))) a_nil'))) h_numbers) rfl
(sm_assoc (sm_frz [.v 0 ((eR D.int) script), .v 0 (D.int count), .v 1 ((eL (eP3 (eL D.int) (eL (eL D.int)) D.int)) scenes), .v 0 ((eL (eL D.int)) numbers), .un, .un, .un, .un, .un, .un, .un, .un, .un, .un] rfl rfl
(sm_N fun passed h_passed =>
(sm_asg [.v 0 ((eR D.int) script), .v 0 (D.int count), .v 1 ((eL (eP3 (eL D.int) (eL (eL D.int)) D.int)) scenes), .v 0 ((eL (eL D.int)) numbers), .v 2 ((eL (eL D.int)) passed), .un, .un, .un, .un, .un, .un, .un, .un, .un] (lcN_o (enc := (eL D.int)) (enc2 := (eL D.int)) (it_l (var_ok rfl)) (fun row => ⟨[.v 0 ((eR D.int) script), .v 0 (D.int count), .v 1 ((eL (eP3 (eL D.int) (eL (eL D.int)) D.int)) scenes), .v 0 ((eL (eL D.int)) numbers), .un, .un, .un, .un, .un, .un, .un, .un, .un, .v 0 ((eL D.int) row)], rfl, (st_ok (a := true) ev_true), (se_ok (enc := (eL D.int)) (a := row) (list_l (var_ok rfl)))⟩) h_passed) rfl
(sm_assoc (sm_N fun spot h_spot =>
(sm_N fun r h_r =>
(sm_N fun spot1 h_spot1 =>
(sm_N fun r1 h_r1 =>
(sm_lt fun first0 h_first0 => (sm_st (setX_s [.v 0 ((eR D.int) script), .v 0 (D.int count), .v 1 ((eL (eP3 (eL D.int) (eL (eL D.int)) D.int)) scenes), .v 0 ((eL (eL D.int)) numbers), .v 2 ((eL (eL D.int)) passed), .v 3 ((eL (enc_Pol T)) first0), .un, .un, .un, .un, .un, .un, .un, .un] (lstX_o (xs_cons_o (eM_o rfl) (up_same _ _) (xs_cons_o (eM_o rfl) (up_same _ _) (xs_cons_o (make_o [.v 0 ((eR D.int) script), .v 0 (D.int count), .v 1 ((eL (eP3 (eL D.int) (eL (eL D.int)) D.int)) scenes), .v 0 ((eL (eL D.int)) numbers), .v 2 ((eL (eL D.int)) passed), .un, .un, .un, .un, .un, .un, .un, .un, .un] (gDef_o (gLn_o (path_ixG (enc := (eL D.int)) (m := 0) (xs := passed) rfl c_ok h_spot) gNil_o)) (show List.Nodup [4] by decide) (dsA_ln (at_ixG (enc := (eL D.int)) (m := 0) (xs := passed) rfl (atR_get h_spot).2) dsA_nil) ((t_ByRow_init T spot.2).ok h_r) (putIx0 (enc := (eL D.int)) (m := 0) (xs := passed) rfl (atR_get h_spot).2 putN)) (up_same _ _) (xs_cons_o (eM_o rfl) (up_same _ _) (xs_cons_o (make_o [.v 0 ((eR D.int) script), .v 0 (D.int count), .v 1 ((eL (eP3 (eL D.int) (eL (eL D.int)) D.int)) scenes), .v 0 ((eL (eL D.int)) numbers), .v 2 ((eL (eL D.int)) passed), .un, .un, .un, .un, .un, .un, .un, .un, .un] (gDef_o (gLn_o (path_ixG (enc := (eL D.int)) (m := 0) (xs := passed) rfl c_ok h_spot1) gNil_o)) (show List.Nodup [4] by decide) (dsA_ln (at_ixG (enc := (eL D.int)) (m := 0) (xs := passed) rfl (atR_get h_spot1).2) dsA_nil) ((t_Fixed_init T spot1.2).ok h_r1) (putIx0 (enc := (eL D.int)) (m := 0) (xs := passed) rfl (atR_get h_spot1).2 putN)) (up_same _ _) xs_nil_o))))) (Nat.le_of_ble_eq_true rfl)) (by subst h_first0; rfl))
(sm_assoc (sm_N fun spot2 h_spot2 =>
(sm_N fun r2 h_r2 =>
(sm_N fun spot3 h_spot3 =>
(sm_N fun r3 h_r3 =>
(sm_lt fun second0 h_second0 => (sm_st (setX_s [.v 0 ((eR D.int) script), .v 0 (D.int count), .v 1 ((eL (eP3 (eL D.int) (eL (eL D.int)) D.int)) scenes), .v 0 ((eL (eL D.int)) numbers), .v 2 ((eL (eL D.int)) passed), .v 3 ((eL (enc_Pol T)) first0), .v 3 ((eL (enc_Pol T)) second0), .un, .un, .un, .un, .un, .un, .un] (lstX_o (xs_cons_o (eM_o rfl) (up_same _ _) (xs_cons_o (eM_o rfl) (up_same _ _) (xs_cons_o (make_o [.v 0 ((eR D.int) script), .v 0 (D.int count), .v 1 ((eL (eP3 (eL D.int) (eL (eL D.int)) D.int)) scenes), .v 0 ((eL (eL D.int)) numbers), .v 2 ((eL (eL D.int)) passed), .v 3 ((eL (enc_Pol T)) first0), .un, .un, .un, .un, .un, .un, .un, .un] (gDef_o (gLn_o (path_ixG (enc := (eL D.int)) (m := 0) (xs := passed) rfl c_ok h_spot2) gNil_o)) (show List.Nodup [4] by decide) (dsA_ln (at_ixG (enc := (eL D.int)) (m := 0) (xs := passed) rfl (atR_get h_spot2).2) dsA_nil) ((t_ByRow_init T spot2.2).ok h_r2) (putIx0 (enc := (eL D.int)) (m := 0) (xs := passed) rfl (atR_get h_spot2).2 putN)) (up_same _ _) (xs_cons_o (eM_o rfl) (up_same _ _) (xs_cons_o (make_o [.v 0 ((eR D.int) script), .v 0 (D.int count), .v 1 ((eL (eP3 (eL D.int) (eL (eL D.int)) D.int)) scenes), .v 0 ((eL (eL D.int)) numbers), .v 2 ((eL (eL D.int)) passed), .v 3 ((eL (enc_Pol T)) first0), .un, .un, .un, .un, .un, .un, .un, .un] (gDef_o (gLn_o (path_ixG (enc := (eL D.int)) (m := 0) (xs := passed) rfl c_ok h_spot3) gNil_o)) (show List.Nodup [4] by decide) (dsA_ln (at_ixG (enc := (eL D.int)) (m := 0) (xs := passed) rfl (atR_get h_spot3).2) dsA_nil) ((t_Fixed_init T spot3.2).ok h_r3) (putIx0 (enc := (eL D.int)) (m := 0) (xs := passed) rfl (atR_get h_spot3).2 putN)) (up_same _ _) xs_nil_o))))) (Nat.le_of_ble_eq_true rfl)) (by subst h_second0; rfl))
(sm_assoc (sm_if (test_ok (ne_P (ple_L (ple_L ple_int)) (by decide) (var_ok rfl) (var_ok rfl))) (fun _ =>
(sm_ret (enc := D.bl) (r := false) (own0_ok c_ok))) (fun _ =>
(sm_no (sm_assoc (sm_N fun spot4 h_spot4 =>
(sm_N fun row1 h_row1 =>
(sm_st (insIx_s (m := 0) (enc := D.int) (xss := passed) (v := 5) (ys := row1) [.v 0 ((eR D.int) script), .v 0 (D.int count), .v 1 ((eL (eP3 (eL D.int) (eL (eL D.int)) D.int)) scenes), .v 0 ((eL (eL D.int)) numbers), .v 2 ((eL (eL D.int)) (passed.set spot4.1 row1)), .v 3 ((eL (enc_Pol T)) first0), .v 3 ((eL (enc_Pol T)) second0), .un, .un, .un, .un, .un, .un, .un] rfl c_ok (own0_ok c_ok) h_spot4 (up_same _ _) h_row1 rfl)
(sm_assoc (sm_N fun spot5 h_spot5 =>
(sm_N fun row2 h_row2 =>
(sm_st (insIx_s (m := 0) (enc := D.int) (xss := (passed.set spot4.1 row1)) (v := 3) (ys := row2) [.v 0 ((eR D.int) script), .v 0 (D.int count), .v 1 ((eL (eP3 (eL D.int) (eL (eL D.int)) D.int)) scenes), .v 0 ((eL (eL D.int)) numbers), .v 2 ((eL (eL D.int)) ((passed.set spot4.1 row1).set spot5.1 row2)), .v 3 ((eL (enc_Pol T)) first0), .v 3 ((eL (enc_Pol T)) second0), .un, .un, .un, .un, .un, .un, .un] rfl c_ok (own0_ok c_ok) h_spot5 (up_same _ _) h_row2 rfl)
(sm_assoc (sm_N fun rng1 h_rng1 =>
(sm_for (IV := (fun (s : List O_Pol × List O_Pol) (ss : En) => ∃ jx0 : Sl, ∃ jx1 : Sl, ∃ jx2 : Sl, ∃ jx3 : Sl, ∃ jx4 : Sl, ∃ jx5 : Sl, ss = [.v 0 ((eR D.int) script), .v 0 (D.int count), .v 1 ((eL (eP3 (eL D.int) (eL (eL D.int)) D.int)) scenes), .v 0 ((eL (eL D.int)) numbers), .v 2 ((eL (eL D.int)) ((passed.set spot4.1 row1).set spot5.1 row2)), .v 3 ((eL (enc_Pol T)) s.1), .v 3 ((eL (enc_Pol T)) s.2), jx0, jx1, jx2, jx3, jx4, jx5, .un])) (enc := D.int) rets_rt (it_1 (var_ok rfl) h_rng1) ⟨_, _, _, _, _, _, rfl⟩ (by
 rintro k1 ⟨first1, second1⟩ _ ⟨j, j1, j2, j3, j4, j5, rfl⟩
 exact (sm_step [.v 0 ((eR D.int) script), .v 0 (D.int count), .v 1 ((eL (eP3 (eL D.int) (eL (eL D.int)) D.int)) scenes), .v 0 ((eL (eL D.int)) numbers), .v 2 ((eL (eL D.int)) ((passed.set spot4.1 row1).set spot5.1 row2)), .v 3 ((eL (enc_Pol T)) first1), .v 3 ((eL (enc_Pol T)) second1), .v 0 (D.int k1), j1, j2, j3, j4, j5, .un] rfl (sm_one (sm_assoc (sm_N fun scene h_scene =>
(sm_asg [.v 0 ((eR D.int) script), .v 0 (D.int count), .v 1 ((eL (eP3 (eL D.int) (eL (eL D.int)) D.int)) scenes), .v 0 ((eL (eL D.int)) numbers), .v 2 ((eL (eL D.int)) ((passed.set spot4.1 row1).set spot5.1 row2)), .v 3 ((eL (enc_Pol T)) first1), .v 3 ((eL (enc_Pol T)) second1), .v 0 (D.int k1), .v 0 ((eP3 (eL D.int) (eL (eL D.int)) D.int) scene), j2, j3, j4, j5, .un] (own0_ok (ix_l (enc := (eP3 (eL D.int) (eL (eL D.int)) D.int)) (xs := scenes) (var_ok rfl) (var_ok rfl) h_scene)) rfl
(sm_assoc (sm_N fun mod0 h_mod0 =>
(sm_N fun ahead h_ahead =>
(sm_asg [.v 0 ((eR D.int) script), .v 0 (D.int count), .v 1 ((eL (eP3 (eL D.int) (eL (eL D.int)) D.int)) scenes), .v 0 ((eL (eL D.int)) numbers), .v 2 ((eL (eL D.int)) ((passed.set spot4.1 row1).set spot5.1 row2)), .v 3 ((eL (enc_Pol T)) first1), .v 3 ((eL (enc_Pol T)) second1), .v 0 (D.int k1), .v 0 ((eP3 (eL D.int) (eL (eL D.int)) D.int) scene), .v 0 ((eP3 (eL D.int) (eL (eL D.int)) D.int) ahead), j3, j4, j5, .un] (own0_ok (ix_l (enc := (eP3 (eL D.int) (eL (eL D.int)) D.int)) (xs := scenes) (var_ok rfl) (mod_r (toi_o (add_ok (var_ok rfl) c_ok)) (var_ok rfl) h_mod0) h_ahead)) rfl
(sm_assoc (sm_N fun at1 h_at1 =>
(sm_N fun dues h_dues =>
(sm_asg [.v 0 ((eR D.int) script), .v 0 (D.int count), .v 1 ((eL (eP3 (eL D.int) (eL (eL D.int)) D.int)) scenes), .v 0 ((eL (eL D.int)) numbers), .v 2 ((eL (eL D.int)) ((passed.set spot4.1 row1).set spot5.1 row2)), .v 3 ((eL (enc_Pol T)) first1), .v 3 ((eL (enc_Pol T)) second1), .v 0 (D.int k1), .v 0 ((eP3 (eL D.int) (eL (eL D.int)) D.int) scene), .v 0 ((eP3 (eL D.int) (eL (eL D.int)) D.int) ahead), .v 1 ((eL D.int) dues), j4, j5, .un] (fn_o (a0_ok (var_ok rfl) (a0_ok (ix_l (enc := (eL D.int)) (xs := numbers) (var_ok rfl) c_ok h_at1) (a0_ok (var_ok rfl) ev_nil))) ((t_law_dues scene at1 k1).ok h_dues)) rfl
(sm_assoc (sm_N fun at2 h_at2 =>
(sm_N fun later h_later =>
(sm_asg [.v 0 ((eR D.int) script), .v 0 (D.int count), .v 1 ((eL (eP3 (eL D.int) (eL (eL D.int)) D.int)) scenes), .v 0 ((eL (eL D.int)) numbers), .v 2 ((eL (eL D.int)) ((passed.set spot4.1 row1).set spot5.1 row2)), .v 3 ((eL (enc_Pol T)) first1), .v 3 ((eL (enc_Pol T)) second1), .v 0 (D.int k1), .v 0 ((eP3 (eL D.int) (eL (eL D.int)) D.int) scene), .v 0 ((eP3 (eL D.int) (eL (eL D.int)) D.int) ahead), .v 1 ((eL D.int) dues), .v 1 ((eL D.int) later), j5, .un] (fn_o (a0_ok (var_ok rfl) (a0_ok (ix_l (enc := (eL D.int)) (xs := numbers) (var_ok rfl) c_ok h_at2) (a0_ok (var_ok rfl) ev_nil))) ((t_law_dues ahead at2 k1).ok h_later)) rfl
(sm_N fun rng2 h_rng2 =>
(sm_for (IV := (fun (s : List O_Pol × List O_Pol) (ss : En) => ∃ jx0 : Sl, ss = [.v 0 ((eR D.int) script), .v 0 (D.int count), .v 1 ((eL (eP3 (eL D.int) (eL (eL D.int)) D.int)) scenes), .v 0 ((eL (eL D.int)) numbers), .v 2 ((eL (eL D.int)) ((passed.set spot4.1 row1).set spot5.1 row2)), .v 3 ((eL (enc_Pol T)) s.1), .v 3 ((eL (enc_Pol T)) s.2), .v 0 (D.int k1), .v 0 ((eP3 (eL D.int) (eL (eL D.int)) D.int) scene), .v 0 ((eP3 (eL D.int) (eL (eL D.int)) D.int) ahead), .v 1 ((eL D.int) dues), .v 1 ((eL D.int) later), jx0, .un])) (enc := D.int) rets_rt (it_1 c_ok h_rng2) ⟨_, rfl⟩ (by
 rintro j7 ⟨first2, second2⟩ _ ⟨j6, rfl⟩
 exact (sm_step [.v 0 ((eR D.int) script), .v 0 (D.int count), .v 1 ((eL (eP3 (eL D.int) (eL (eL D.int)) D.int)) scenes), .v 0 ((eL (eL D.int)) numbers), .v 2 ((eL (eL D.int)) ((passed.set spot4.1 row1).set spot5.1 row2)), .v 3 ((eL (enc_Pol T)) first2), .v 3 ((eL (enc_Pol T)) second2), .v 0 (D.int k1), .v 0 ((eP3 (eL D.int) (eL (eL D.int)) D.int) scene), .v 0 ((eP3 (eL D.int) (eL (eL D.int)) D.int) ahead), .v 1 ((eL D.int) dues), .v 1 ((eL D.int) later), .v 0 (D.int j7), .un] rfl (sm_one (sm_assoc (sm_N fun spot6 h_spot6 =>
(sm_N fun r4 h_r4 =>
(sm_N fun at3 h_at3 =>
(sm_ifX (b := !decide (r4.2 = at3)) (cmpX_ne (lend_o [.v 0 ((eR D.int) script), .v 0 (D.int count), .v 1 ((eL (eP3 (eL D.int) (eL (eL D.int)) D.int)) scenes), .v 0 ((eL (eL D.int)) numbers), .v 2 ((eL (eL D.int)) ((passed.set spot4.1 row1).set spot5.1 row2)), .v 3 ((eL (enc_Pol T)) (first2.set spot6.1 r4.1)), .v 3 ((eL (enc_Pol T)) second2), .v 0 (D.int k1), .v 0 ((eP3 (eL D.int) (eL (eL D.int)) D.int) scene), .v 0 ((eP3 (eL D.int) (eL (eL D.int)) D.int) ahead), .v 1 ((eL D.int) dues), .v 1 ((eL D.int) later), .v 0 (D.int j7), .un] (gLn_o (path_ixG (enc := (enc_Pol T)) (m := 1) (xs := first2) rfl (var_ok rfl) h_spot6) (gFz_o (var_ok rfl) gNil_o)) (show List.Nodup [5] by decide) (dsA_ln (at_ixG (enc := (enc_Pol T)) (m := 1) (xs := first2) rfl (atR_get h_spot6).2) (dsA_fz dsA_nil)) ((t_law_asked T spot6.2 scene).ok h_r4) (putIx (enc := (enc_Pol T)) (m := 1) (xs := first2) rfl (atR_get h_spot6).2 isL_Pol (putF putN))) (ix_l (enc := D.int) (xs := dues) (var_ok rfl) (var_ok rfl) h_at3)) (fun _ =>
(sm_ret (enc := D.bl) (r := false) (own0_ok c_ok))) (fun _ =>
(sm_no (sm_N fun spot7 h_spot7 =>
(sm_N fun r5 h_r5 =>
(sm_N fun at4 h_at4 =>
(sm_ifX (b := !decide (r5.2 = at4)) (cmpX_ne (lend_o [.v 0 ((eR D.int) script), .v 0 (D.int count), .v 1 ((eL (eP3 (eL D.int) (eL (eL D.int)) D.int)) scenes), .v 0 ((eL (eL D.int)) numbers), .v 2 ((eL (eL D.int)) ((passed.set spot4.1 row1).set spot5.1 row2)), .v 3 ((eL (enc_Pol T)) (first2.set spot6.1 r4.1)), .v 3 ((eL (enc_Pol T)) (second2.set spot7.1 r5.1)), .v 0 (D.int k1), .v 0 ((eP3 (eL D.int) (eL (eL D.int)) D.int) scene), .v 0 ((eP3 (eL D.int) (eL (eL D.int)) D.int) ahead), .v 1 ((eL D.int) dues), .v 1 ((eL D.int) later), .v 0 (D.int j7), .un] (gLn_o (path_ixG (enc := (enc_Pol T)) (m := 1) (xs := second2) rfl (var_ok rfl) h_spot7) (gFz_o (var_ok rfl) gNil_o)) (show List.Nodup [6] by decide) (dsA_ln (at_ixG (enc := (enc_Pol T)) (m := 1) (xs := second2) rfl (atR_get h_spot7).2) (dsA_fz dsA_nil)) ((t_law_asked T spot7.2 ahead).ok h_r5) (putIx (enc := (enc_Pol T)) (m := 1) (xs := second2) rfl (atR_get h_spot7).2 isL_Pol (putF putN))) (ix_l (enc := D.int) (xs := later) (var_ok rfl) (var_ok rfl) h_at4)) (fun _ =>
(sm_ret (enc := D.bl) (r := false) (own0_ok c_ok))) (fun _ =>
(sm_no (sm_end ⟨_, rfl⟩)))))))))))))))))  (by
 rintro ⟨first3, second3⟩ _ ⟨j8, rfl⟩
 exact ((sm_end ⟨_, _, _, _, _, _, rfl⟩)))))))))))))))))))))))  (by
 rintro ⟨first4, second4⟩ _ ⟨j9, j10, j11, j12, j13, j14, rfl⟩
 exact ((sm_ret (enc := D.bl) (r := true) (own0_ok c_ok)))))))))))))))))))))))))))))))))))))))))))))))))))))))
end
end K14
namespace K14
open PySem L2 Mv Ty Sh
theorem orR_f {a : Bool} {b : Res Bool} (h : a = false) : orR (.ok a) b = b := by rw [h]; rfl
theorem andR_t {a : Bool} {b : Res Bool} (h : a = true) : andR (.ok a) b = b := by rw [h]; rfl
theorem andR_f {a : Bool} {b : Res Bool} (h : a = false) : andR (.ok a) b = .ok false := by rw [h]; rfl
abbrev Scene := List Int × List (List Int) × Int
/-- a drawn scene -/
structure Sc (s : Scene) : Prop where
  len : 1 ≤ s.1.length ∧ s.1.length ≤ 24
  ge : ∀ x ∈ s.1, -1 ≤ x
  al : ∃ x ∈ s.1, 0 ≤ x
  la : s.2.1.length = s.1.length
  few : ∀ r ∈ s.2.1, r.length ≤ 3
  kn : 0 ≤ s.2.2
/-- the occupied nodes -/
def pl (S : List Int) : List Int := distI (S.filter fun x => decide (0 ≤ x))
theorem pl_len (S : List Int) : (pl S).length ≤ S.length := Nat.le_trans (distI_len _) (List.length_filter_le _ _)
theorem Sc.pos {s : Scene} (h : Sc s) : 0 < (pl s.1).length := by
  obtain ⟨x, h1, h2⟩ := h.al
  exact List.length_pos_of_mem ((distI_mem x _).mpr (List.mem_filter.mpr ⟨h1, decide_eq_true h2⟩))
theorem spots_ok {S : List Int} (h : S.length ≤ 24) : p_law_spots S = .ok (pl S) := by
  have this : RO (fun o => o = pl S) (p_law_spots S) := by
    unfold p_law_spots
    refine ro_res (out_Ne (lcR_ok (q := fun x => decide (0 ≤ x)) (f := fun x => x) (by omega) (fun _ _ => rfl) fun _ _ _ => rfl) ?_)
    rw [List.map_id']
    have := List.length_filter_le (fun x : Int => decide (0 ≤ x)) S
    exact out_Ne (distR_few (by omega)) (.rt rfl)
  obtain ⟨v, e, rfl⟩ := this
  exact e
theorem occ_ok {s : Scene} (h : Sc s) : p_occupied s.1 = .ok (pl s.1) := by
  have hl := h.len
  have this : RO (fun o => o = pl s.1) (p_occupied s.1) := by
    unfold p_occupied
    refine ro_res (out_Ne (lcR_ok (q := fun x => decide (0 ≤ x)) (f := fun x => x) (by omega) (fun x hx => ?_) fun _ _ _ => rfl) ?_)
    · have := h.ge x hx
      by_cases e : x = -1
      · rw [decide_eq_true e, decide_eq_false (by omega)]; rfl
      · rw [decide_eq_false e, decide_eq_true (by omega)]; rfl
    · rw [List.map_id']
      have := List.length_filter_le (fun x : Int => decide (0 ≤ x)) s.1
      have e : p_distinct (s.1.filter fun x => decide (0 ≤ x)) = .ok (pl s.1) := by
        unfold p_distinct
        rw [oN_ok (distR_few (by omega))]
        rfl
      exact out_Ne e (.rt rfl)
  obtain ⟨v, e, rfl⟩ := this
  exact e
theorem g_ix {l : List Int} {z : Int} (h0 : 0 ≤ z) (h1 : z < (l.length : Int)) : ixR l z = .ok (l.getD z.toNat 0) := by
  obtain ⟨x, e1, e2⟩ := ixR_ok h0 h1
  rw [e1, List.getD_eq_getElem?_getD, e2]
  rfl
/-- no other lane sees that node -/
def clB (s : Scene) (v : Int) (n : Nat) : Bool := (List.range n).all fun k => !((!decide (s.1.getD k 0 = v)) && decide (v ∈ s.2.1.getD k []))
theorem clB_succ (s : Scene) (v : Int) (n : Nat) : clB s v (n + 1) = (clB s v n && !((!decide (s.1.getD n 0 = v)) && decide (v ∈ s.2.1.getD n []))) := by
  unfold clB
  rw [List.range_succ, List.all_append]
  simp
def clr (s : Scene) : Int := if s.2.2 < 2 then (pl s.1).getD 0 0 else ((pl s.1).find? fun v => clB s v s.1.length).getD ((pl s.1).getD 0 0)
theorem find_at {l : List Int} {q : Int → Bool} {i : Nat} {x : Int} (h : l[i]? = some x) (hb : ∀ j y, j < i → l[j]? = some y → q y = false) (hq : q x = true) : l.find? q = some x := by
  rcases List.getElem?_eq_some_iff.mp h with ⟨hi, e⟩
  refine List.find?_eq_some_iff_getElem.mpr ⟨hq, i, hi, e, fun j hj => ?_⟩
  rw [hb j _ hj (List.getElem?_eq_getElem (by omega))]
  rfl
theorem find_no {l : List Int} {q : Int → Bool} (h : ∀ j y, j < l.length → l[j]? = some y → q y = false) : l.find? q = none := List.find?_eq_none.mpr fun x hx => by
  rcases List.mem_iff_getElem?.mp hx with ⟨j, hj⟩
  rw [h j x (List.getElem?_eq_some_iff.mp hj).1 hj]
  decide
theorem a_ix {s : Scene} (h : Sc s) {k : Nat} (hk : k < s.1.length) : ixR s.2.1 (k : Int) = .ok (s.2.1.getD k []) ∧ (s.2.1.getD k []).length ≤ 3 := by
  have hk2 : k < s.2.1.length := by rw [h.la]; exact hk
  have e : s.2.1[k]? = some s.2.1[k] := List.getElem?_eq_getElem hk2
  rw [List.getD_eq_getElem?_getD,
    e]
  exact ⟨ixR_get e, h.few _ (List.getElem_mem hk2)⟩
theorem clear_ok {s : Scene} (h : Sc s) : p_law_clear s (pl s.1) = .ok (clr s) := by
  have hl := h.len
  have hp := h.pos
  have h0 : ixR (pl s.1) 0 = .ok ((pl s.1).getD 0 0) := g_ix (by decide) (by omega)
  have this : RO (fun o => o = clr s) (p_law_clear s (pl s.1)) := by
    unfold p_law_clear
    refine ro_res (out_ifd (fun hk => out_Ne h0 (.rt ?_)) fun hk => out_B (M := fun _ => ∀ j y, j < (pl s.1).length → (pl s.1)[j]? = some y → clB s y s.1.length = false) (out_for' (fun i _ => ∀ j y, j < i → (pl s.1)[j]? = some y → clB s y s.1.length = false) _ () (fun j y hj => absurd hj (by omega)) ?_) fun _ hn => out_Ne h0 (.rt ?_))
    · unfold clr
      rw [if_pos hk]
    · rintro i v _ hv hI
      refine out_Ne (rngR_ok (by omega) (by omega)) (out_B (M := fun c => c = clB s v s.1.length) ((out_rng (fun i c => c = clB s v i) 0 _ _ rfl ?_).w ?_) ?_)
      · rintro k c hk2 rfl
        have hk3 : k < s.1.length := by omega
        have e0 : (0 : Int) + (k : Int) = (k : Int) := by omega
        rw [e0]
        have e1 : ixR s.1 (k : Int) = .ok (s.1.getD k 0) := by have := g_ix (l := s.1) (z := (k : Int)) (by omega) (by omega); rwa [show ((k : Int)).toNat = k by omega] at this
        have e2 := (a_ix h hk3).1
        refine out_Ne e1 (out_Ne (v := ((!decide (s.1.getD k 0 = v)) && decide (v ∈ s.2.1.getD k []))) ?_ (out_if (fun hc => .nx ?_) fun hc => .nx ?_))
        · by_cases q : s.1.getD k 0 = v
          · rw [decide_eq_true q]; rfl
          · rw [decide_eq_false q, andR_t (a := !false) rfl, bN_ok e2]; simp
        · rw [clB_succ, hc]; simp
        · rw [clB_succ, hc]; simp
      · rintro c rfl
        rw [show ((s.1.length : Int)).toNat = s.1.length by omega]
      · rintro c rfl
        refine out_if (fun hc => .rt ?_) fun hc => .nx fun j y hj hy => ?_
        · unfold clr
          rw [if_neg hk, find_at hv hI hc]
          rfl
        · by_cases hji : j = i
          · subst hji
            rw [hv] at hy
            cases hy
            exact hc
          · exact hI j y (by omega) hy
    · unfold clr
      rw [if_neg hk, find_no hn]
      rfl
  obtain ⟨v, e, rfl⟩ := this
  exact e
/-! what is due -/
def num (n : List Int) (t : Nat) : Int := if t < n.length then n.getD t 0 else 0
def told (n : List Int) (t : Nat) : Int := if t < n.length then n.getD t 0 else -1
/-- the first of those with the most lanes -/
def Best (S : List Int) (b : Int) : Prop := ∃ j : Nat, (pl S)[j]? = some b ∧ (∀ y ∈ pl S, S.count y ≤ S.count b) ∧ ∀ (j' : Nat) (y : Int), j' < j → (pl S)[j']? = some y → S.count y < S.count b
theorem Best.one {S : List Int} {a b : Int} (ha : Best S a) (hb : Best S b) : a = b := by
  obtain ⟨i, a1, a2, a3⟩ := ha
  obtain ⟨j, b1, b2, b3⟩ := hb
  have c1 := a2 b (List.mem_of_getElem? b1)
  have c2 := b2 a (List.mem_of_getElem? a1)
  rcases Nat.lt_trichotomy i j with h | h | h
  · have := b3 i a h a1; omega
  · subst h; rw [a1] at b1; cases b1; rfl
  · have := a3 j b h b1; omega
structure Due (s : Scene) (n : List Int) (t : Nat) (D : List Int) : Prop where
  d0 : D[0]? = some ((pl s.1).getD 0 0)
  d1 : ∃ b, D[1]? = some b ∧ Best s.1 b
  d2 : D[2]? = some ((pl s.1).getD (num n t % (pl s.1).length).toNat 0)
  d3 : D[3]? = some (clr s)
  d4 : D[4]? = some (told n t)
theorem dues_ok {s : Scene} (h : Sc s) (n : List Int) (t : Nat) : RO (Due s n t) (p_law_dues s n (t : Int)) := by
  have hl := h.len
  have hp := h.pos
  have hpl := pl_len s.1
  unfold p_law_dues
  refine ro_res (out_Ne (spots_ok hl.2) (out_Ne (lcR_map (f := fun v => ((s.1.count v : Nat) : Int)) (by omega) fun _ _ => rfl) (out_B (M := fun z => z = (num n t, told n t)) (out_ifd (fun hk => ?_) fun hk => .nx ?_) ?_)))
  · have e : ixR n (t : Int) = .ok (n.getD t 0) := by have := g_ix (l := n) (z := (t : Int)) (by omega) hk; rwa [show ((t : Int)).toNat = t by omega] at this
    refine out_Ne e (.nx ?_)
    unfold num told
    rw [if_pos (by omega),
      if_pos (by omega)]
  · unfold num told
    rw [if_neg (by omega),
      if_neg (by omega)]
  rintro _ rfl
  have hne : (pl s.1).map (fun v => ((s.1.count v : Nat) : Int)) ≠ [] := fun z => by rw [List.map_eq_nil_iff] at z; rw [z] at hp; exact absurd hp (by decide)
  obtain ⟨m1, m2⟩ := most_at hne
  have em : mostR ((pl s.1).map fun v => ((s.1.count v : Nat) : Int)) = .ok (mostI ((pl s.1).map fun v => ((s.1.count v : Nat) : Int))) := by
    cases hc : (pl s.1).map (fun v => ((s.1.count v : Nat) : Int)) with
    | nil => exact absurd hc hne
    | cons a l => rfl
  generalize mostI ((pl s.1).map fun v => ((s.1.count v : Nat) : Int)) = mx at m1 m2 em
  -- the first index
  obtain ⟨i, hi⟩ : ∃ i, ((pl s.1).map fun v => ((s.1.count v : Nat) : Int)).findIdx? (fun j => decide (j = mx)) = some i := by
    cases hf : ((pl s.1).map fun v => ((s.1.count v : Nat) : Int)).findIdx? (fun j => decide (j = mx)) with
    | some i => exact ⟨i, rfl⟩
    | none =>
      have := List.findIdx?_eq_none_iff.mp hf mx m1
      simp at this
  obtain ⟨hlt, hx, hbf⟩ := List.findIdx?_eq_some_iff_getElem.mp hi
  rw [List.length_map] at hlt
  have ei : indexR ((pl s.1).map fun v => ((s.1.count v : Nat) : Int)) mx = .ok (i : Int) := by unfold indexR; rw [hi]
  have gi : (pl s.1)[i]? = some (pl s.1)[i] := List.getElem?_eq_getElem hlt
  have hx : ((s.1.count (pl s.1)[i] : Nat) : Int) = mx := by have := of_decide_eq_true hx; rwa [List.getElem_map] at this
  have best : Best s.1 (pl s.1)[i] := by
    refine ⟨i, gi, fun y hy => ?_, fun j y hj hy => ?_⟩
    · have := m2 _ (List.mem_map.mpr ⟨y, hy, rfl⟩)
      omega
    · obtain ⟨hjl, ey⟩ := List.getElem?_eq_some_iff.mp hy
      have a := m2 _ (List.mem_map.mpr ⟨y, List.mem_of_getElem? hy, rfl⟩)
      have b := hbf j hj
      rw [List.getElem_map, ey] at b
      have : ((s.1.count y : Nat) : Int) ≠ mx := by simpa using b
      omega
  have h0 : ixR (pl s.1) 0 = .ok ((pl s.1).getD 0 0) := g_ix (by decide) (by omega)
  have bm := modB (a := num n t) (b := ((pl s.1).length : Int)) (by omega)
  exact out_Ne em (out_Ne ei (out_Ne (ixR_get gi) (out_Ne h0 (out_Ne (modR_ok (by omega)) (out_Ne (g_ix bm.1 bm.2) (out_Ne (clear_ok h) (.rt ⟨rfl, ⟨_, rfl, best⟩, rfl, rfl, rfl⟩)))))))
end K14
namespace K14
open PySem L2 Mv Ty Sh
theorem least_pick {s : Scene} (h : Sc s) (o : O_LeastNode) (sh : Option (List (List Int))) : p_LeastNode_pick o s.1 sh = .ok (o, (pl s.1).getD 0 0) := by
  have hp := h.pos
  unfold p_LeastNode_pick
  rw [oN_ok (occ_ok h), oN_ok (g_ix (l := pl s.1) (z := 0) (by decide) (by omega))]
  rfl
theorem most_pick {s : Scene} (h : Sc s) (o : O_MostLanes) (sh : Option (List (List Int))) : RO (fun r => r.1 = o ∧ Best s.1 r.2) (p_MostLanes_pick o s.1 sh) := by
  have hp := h.pos
  have e0 : (pl s.1)[0]? = some ((pl s.1).getD 0 0) := by rw [List.getElem?_eq_getElem hp, List.getD_eq_getElem?_getD, List.getElem?_eq_getElem hp]; rfl
  unfold p_MostLanes_pick
  refine ro_res (out_Ne (occ_ok h) (out_Ne (g_ix (l := pl s.1) (z := 0) (by decide) (by omega)) (out_B (M := fun b => Best s.1 b) ((out_for' (fun (i : Nat) (b : Int) => ∃ j : Nat, (pl s.1)[j]? = some b ∧ (∀ (j' : Nat) (y : Int), j' < i → (pl s.1)[j']? = some y → s.1.count y ≤ s.1.count b) ∧ ∀ (j' : Nat) (y : Int), j' < j → (pl s.1)[j']? = some y → s.1.count y < s.1.count b) (pl s.1) _ ⟨0, e0, fun j' y hj => absurd hj (by omega), fun j' y hj => absurd hj (by omega)⟩ ?_).w ?_) fun b hb => .rt ⟨rfl, hb⟩)))
  · rintro i x b hx ⟨j, b1, b2, b3⟩
    refine out_ifd (fun hk => .nx ⟨i, hx, fun j' y hj hy => ?_, fun j' y hj hy => ?_⟩) fun hk => .nx ⟨j, b1, fun j' y hj hy => ?_, b3⟩
    · by_cases e : j' = i
      · subst e; rw [hx] at hy; cases hy; exact Nat.le_refl _
      · have := b2 j' y (by omega) hy; omega
    · have := b2 j' y hj hy; omega
    · by_cases e : j' = i
      · subst e; rw [hx] at hy; cases hy; omega
      · exact b2 j' y (by omega) hy
  · rintro b ⟨j, b1, b2, b3⟩
    refine ⟨j, b1, fun y hy => ?_, b3⟩
    obtain ⟨j', hj⟩ := List.mem_iff_getElem?.mp hy
    exact b2 j' y (List.getElem?_eq_some_iff.mp hj).1 hj
theorem row_pick {s : Scene} (h : Sc s) (n : List Int) (t : Nat) (sh : Option (List (List Int))) : p_ByRow_pick (n, (t : Int)) s.1 sh = .ok ((n, ((t + 1 : Nat) : Int)), (pl s.1).getD (num n t % (pl s.1).length).toNat 0) := by
  have hp := h.pos
  have bm := modB (a := num n t) (b := ((pl s.1).length : Int)) (by omega)
  have this : RO (fun r => r = ((n, ((t + 1 : Nat) : Int)), (pl s.1).getD (num n t % (pl s.1).length).toNat 0)) (p_ByRow_pick (n, (t : Int)) s.1 sh) := by
    unfold p_ByRow_pick
    refine ro_res (out_Ne (occ_ok h) (out_B (M := fun z => z = num n t) (out_ifd (fun hk => ?_) fun hk => .nx ?_) ?_))
    · have hk : (t : Int) < (n.length : Int) := hk
      have e : ixR n (t : Int) = .ok (n.getD t 0) := by have := g_ix (l := n) (z := (t : Int)) (by omega) hk; rwa [show ((t : Int)).toNat = t by omega] at this
      refine out_Ne e (.nx ?_)
      unfold num
      rw [if_pos (by omega)]
    · have hk : ¬ (t : Int) < (n.length : Int) := hk
      unfold num
      rw [if_neg (by omega)]
    · rintro _ rfl
      exact out_lt (out_Ne (modR_ok (by omega)) (out_Ne (g_ix bm.1 bm.2) (.rt rfl)))
  obtain ⟨v, e, rfl⟩ := this
  exact e
theorem fixed_pick (S n : List Int) (t : Nat) (sh : Option (List (List Int))) : p_Fixed_pick (n, (t : Int)) S sh = .ok ((n, ((t + 1 : Nat) : Int)), told n t) := by
  have this : RO (fun r => r = ((n, ((t + 1 : Nat) : Int)), told n t)) (p_Fixed_pick (n, (t : Int)) S sh) := by
    unfold p_Fixed_pick
    refine ro_res (out_lt (out_ifd (fun hk => .rt ?_) fun hk => ?_))
    · have hk : (n.length : Int) < (t : Int) + 1 := hk
      unfold told
      rw [if_neg (by omega)]
      rfl
    · have hk : ¬ (n.length : Int) < (t : Int) + 1 := hk
      have e : ixR n ((t : Int) + 1 - 1) = .ok (n.getD t 0) := by have := g_ix (l := n) (z := (t : Int)) (by omega) (by omega); rwa [show ((t : Int)).toNat = t by omega, show (t : Int) = (t : Int) + 1 - 1 by omega] at this
      refine out_Ne e (.rt ?_)
      unfold told
      rw [if_pos (by omega)]
      rfl
  obtain ⟨v, e, rfl⟩ := this
  exact e
/-! the awaited nodes -/
theorem dhas_any (w : Int) : ∀ l : List (Int × Bool), dhas l w = l.any fun p => decide (p.1 = w)
  | [] => rfl
  | p :: r => by
    have ih := dhas_any w r
    unfold dhas at ih ⊢
    unfold dgI
    rw [List.any_cons]
    by_cases h : p.1 = w
    · rw [if_pos h, decide_eq_true h]; rfl
    · rw [if_neg h, decide_eq_false h, ih]; rfl
theorem dhas_put (l : List (Int × Bool)) (k w : Int) : dhas (dpI l k true) w = true ↔ w = k ∨ dhas l w = true := by
  unfold dpI
  by_cases h : (dgI l k).isSome = true
  · rw [if_pos h]
    have e : dhas (l.map fun p => if p.1 = k then (p.1, true) else p) w = dhas l w := by
      rw [dhas_any, dhas_any, List.any_map]
      congr 1
      funext p
      show decide ((if p.1 = k then (p.1, true) else p).1 = w) = decide (p.1 = w)
      by_cases q : p.1 = k
      · rw [if_pos q]
      · rw [if_neg q]
    rw [e]
    refine ⟨fun z => .inr z, fun z => ?_⟩
    rcases z with rfl | z
    · exact h
    · exact z
  · rw [if_neg h, dhas_any, dhas_any, List.any_append, Bool.or_eq_true]
    constructor
    · rintro (z | z)
      · exact .inr z
      · left
        simp at z
        exact z.symm
    · rintro (rfl | z)
      · right; simp
      · exact .inl z
theorem dpI_len (l : List (Int × Bool)) (k : Int) : (dpI l k true).length ≤ l.length + 1 := by
  unfold dpI
  split
  · rw [List.length_map]; omega
  · rw [List.length_append]
    simp
theorem take_snoc {α : Type} {l : List α} {i : Nat} {x : α} (h : l[i]? = some x) : l.take i ++ [x] = l.take (i + 1) := by
  rw [List.take_succ, h]
  rfl
theorem clB_f {s : Scene} {v : Int} {n : Nat} : clB s v (n + 1) = false ↔ clB s v n = false ∨ (s.1.getD n 0 ≠ v ∧ v ∈ s.2.1.getD n []) := by
  rw [clB_succ]
  cases clB s v n <;> simp
theorem peek_none {s : Scene} (h : Sc s) (o : O_Peek) : p_Peek_pick o s.1 none = .ok (o, (pl s.1).getD 0 0) := by
  have hp := h.pos
  unfold p_Peek_pick
  rw [oN_ok (occ_ok h), if_pos (by rfl), oN_ok (g_ix (l := pl s.1) (z := 0) (by decide) (by omega))]
  rfl
theorem peek_some {s : Scene} (h : Sc s) (o : O_Peek) : p_Peek_pick o s.1 (some s.2.1) = .ok (o, ((pl s.1).find? fun v => clB s v s.1.length).getD ((pl s.1).getD 0 0)) := by
  have hp := h.pos
  have hl := h.len
  have h0 : ixR (pl s.1) 0 = .ok ((pl s.1).getD 0 0) := g_ix (by decide) (by omega)
  have this : RO (fun r => r = (o, ((pl s.1).find? fun v => clB s v s.1.length).getD ((pl s.1).getD 0 0))) (p_Peek_pick o s.1 (some s.2.1)) := by
    unfold p_Peek_pick
    refine ro_res (out_Ne (occ_ok h) (out_if (fun z => by cases z) fun _ => out_lt (out_Ne (rngR_ok (by omega) (by omega)) (out_B (M := fun aw => ∀ v, dhas aw v = true ↔ clB s v s.1.length = false) ((out_rng (fun i (aw : List (Int × Bool)) => aw.length ≤ 3 * i ∧ ∀ v, dhas aw v = true ↔ clB s v i = false) 0 _ _ ⟨Nat.le_refl _, fun v => ⟨fun z => (by cases z), fun z => (by cases z)⟩⟩ ?_).w ?_) ?_))))
    · rintro i aw hi ⟨al, ah⟩
      have hi3 : i < s.1.length := by omega
      have e0 : (0 : Int) + (i : Int) = (i : Int) := by omega
      rw [e0]
      obtain ⟨e2, e3⟩ := a_ix h hi3
      have e1 : ixR s.1 (i : Int) = .ok (s.1.getD i 0) := by have := g_ix (l := s.1) (z := (i : Int)) (by omega) (by omega); rwa [show ((i : Int)).toNat = i by omega] at this
      refine out_Ne (v := s.2.1) rfl (out_Ne e2 (out_B (M := fun aw : List (Int × Bool) => aw.length ≤ 3 * (i + 1) ∧ ∀ v, dhas aw v = true ↔ clB s v (i + 1) = false) ((out_for' (fun j (aw : List (Int × Bool)) => aw.length ≤ 3 * i + j ∧ ∀ v, dhas aw v = true ↔ (clB s v i = false ∨ (s.1.getD i 0 ≠ v ∧ v ∈ (s.2.1.getD i []).take j))) (s.2.1.getD i []) aw ⟨by omega, fun v => by rw [ah v]; simp⟩ ?_).w ?_) fun aw2 h2 => .nx h2))
      · rintro j x aw2 hx ⟨bl, bh⟩
        have hj := (List.getElem?_eq_some_iff.mp hx).1
        refine out_Ne e1 (out_if (fun hc => ?_) fun hc => .nx ⟨by omega, fun v => ?_⟩)
        · have hc : ¬ x = s.1.getD i 0 := by simpa using hc
          refine out_Ne (v := dpI aw2 x true) (by unfold dsetR; rw [if_pos (by omega)]) (.nx ⟨by have := dpI_len aw2 x; omega, fun v => ?_⟩)
          rw [dhas_put, bh v, ← take_snoc hx, List.mem_append, List.mem_singleton]
          constructor
          · rintro (rfl | z | z)
            · exact .inr ⟨fun e => hc e.symm, .inr rfl⟩
            · exact .inl z
            · exact .inr ⟨z.1, .inl z.2⟩
          · rintro (z | ⟨z1, z2 | z2⟩)
            · exact .inr (.inl z)
            · exact .inr (.inr ⟨z1, z2⟩)
            · exact .inl z2
        · have hc : x = s.1.getD i 0 := by simpa using hc
          rw [bh v, ← take_snoc hx, List.mem_append, List.mem_singleton]
          constructor
          · rintro (z | z)
            · exact .inl z
            · exact .inr ⟨z.1, .inl z.2⟩
          · rintro (z | ⟨z1, z2 | z2⟩)
            · exact .inl z
            · exact .inr ⟨z1, z2⟩
            · exact absurd (by rw [z2, hc]) z1
      · rintro aw2 ⟨bl, bh⟩
        refine ⟨by omega, fun v => ?_⟩
        rw [bh v, List.take_length, clB_f]
    · rintro aw ⟨_, ah⟩
      rw [show ((s.1.length : Int)).toNat = s.1.length by omega] at ah
      exact ah
    · rintro aw ah
      have nh : ∀ v, (!dhas aw v) = clB s v s.1.length := fun v => by
        cases hc : clB s v s.1.length with
        | false => rw [(ah v).mpr hc]; rfl
        | true =>
          cases hd : dhas aw v with
          | false => rfl
          | true => rw [(ah v).mp hd] at hc; cases hc
      refine out_B (M := fun _ => ∀ j y, j < (pl s.1).length → (pl s.1)[j]? = some y → clB s y s.1.length = false) (out_for' (fun i _ => ∀ j y, j < i → (pl s.1)[j]? = some y → clB s y s.1.length = false) _ () (fun j y hj => absurd hj (by omega)) ?_) fun _ hn => out_Ne h0 (.rt ?_)
      · rintro i v _ hv hI
        refine out_if (fun hc => .rt ?_) fun hc => .nx fun j y hj hy => ?_
        · rw [nh] at hc
          rw [find_at hv hI hc]
          rfl
        · by_cases hji : j = i
          · subst hji
            rw [hv] at hy
            cases hy
            rw [nh] at hc
            simpa using hc
          · exact hI j y (by omega) hy
      · rw [find_no hn]
        rfl
  obtain ⟨v, e, rfl⟩ := this
  exact e
theorem lself {xs : List (List Int)} (h : xs.length < 10000000) : lcR xs (fun _ => .ok true) (fun (r : List Int) => (.ok r)) = .ok xs := by
  rw [lcR_map (f := fun r => r) h fun _ _ => rfl, List.map_id']
theorem int_ok (v : Int) : p_law_is_int v = .ok true := rfl
theorem asked_LeastNode {s : Scene} (h : Sc s) {o o' : O_LeastNode} {d : Int} (h0 : s.2.2 < 2 → p_LeastNode_pick o s.1 none = .ok (o', d)) (h1 : ¬ s.2.2 < 2 → p_LeastNode_pick o s.1 (some s.2.1) = .ok (o', d)) : p_law_asked_LeastNode o s = .ok (o', d) := by
  have hl := h.len
  have hk0 := h.kn
  have hla := h.la
  have this : RO (fun r => r = (o', d)) (p_law_asked_LeastNode o s) := by
    unfold p_law_asked_LeastNode
    refine ro_res (out_Ne (lself (by omega)) (out_B (M := fun z => z = (o', s.1, d)) (out_ifd (fun hk => out_Ne (h0 (by omega)) (.nx rfl)) fun hk => out_ifd (fun hk2 => out_Ne (h0 (by omega)) (.nx rfl)) fun hk2 => out_Ne (h1 (by omega)) (.nx rfl)) ?_))
    rintro _ rfl
    exact out_Ne (v := false) (by rw [orR_f (by simp), bN_ok (v := false) (by rw [orR_f (by simp), bN_ok (int_ok _)]; rfl)]) (out_if (fun h => by cases h) fun _ => .rt rfl)
  obtain ⟨v, e, rfl⟩ := this
  exact e
theorem asked_MostLanes {s : Scene} (h : Sc s) {o o' : O_MostLanes} {d : Int} (h0 : s.2.2 < 2 → p_MostLanes_pick o s.1 none = .ok (o', d)) (h1 : ¬ s.2.2 < 2 → p_MostLanes_pick o s.1 (some s.2.1) = .ok (o', d)) : p_law_asked_MostLanes o s = .ok (o', d) := by
  have hl := h.len
  have hk0 := h.kn
  have hla := h.la
  have this : RO (fun r => r = (o', d)) (p_law_asked_MostLanes o s) := by
    unfold p_law_asked_MostLanes
    refine ro_res (out_Ne (lself (by omega)) (out_B (M := fun z => z = (o', s.1, d)) (out_ifd (fun hk => out_Ne (h0 (by omega)) (.nx rfl)) fun hk => out_ifd (fun hk2 => out_Ne (h0 (by omega)) (.nx rfl)) fun hk2 => out_Ne (h1 (by omega)) (.nx rfl)) ?_))
    rintro _ rfl
    exact out_Ne (v := false) (by rw [orR_f (by simp), bN_ok (v := false) (by rw [orR_f (by simp), bN_ok (int_ok _)]; rfl)]) (out_if (fun h => by cases h) fun _ => .rt rfl)
  obtain ⟨v, e, rfl⟩ := this
  exact e
theorem asked_ByRow {s : Scene} (h : Sc s) {o o' : O_ByRow} {d : Int} (h0 : s.2.2 < 2 → p_ByRow_pick o s.1 none = .ok (o', d)) (h1 : ¬ s.2.2 < 2 → p_ByRow_pick o s.1 (some s.2.1) = .ok (o', d)) : p_law_asked_ByRow o s = .ok (o', d) := by
  have hl := h.len
  have hk0 := h.kn
  have hla := h.la
  have this : RO (fun r => r = (o', d)) (p_law_asked_ByRow o s) := by
    unfold p_law_asked_ByRow
    refine ro_res (out_Ne (lself (by omega)) (out_B (M := fun z => z = (o', s.1, d)) (out_ifd (fun hk => out_Ne (h0 (by omega)) (.nx rfl)) fun hk => out_ifd (fun hk2 => out_Ne (h0 (by omega)) (.nx rfl)) fun hk2 => out_Ne (h1 (by omega)) (.nx rfl)) ?_))
    rintro _ rfl
    exact out_Ne (v := false) (by rw [orR_f (by simp), bN_ok (v := false) (by rw [orR_f (by simp), bN_ok (int_ok _)]; rfl)]) (out_if (fun h => by cases h) fun _ => .rt rfl)
  obtain ⟨v, e, rfl⟩ := this
  exact e
theorem asked_Peek {s : Scene} (h : Sc s) {o o' : O_Peek} {d : Int} (h0 : s.2.2 < 2 → p_Peek_pick o s.1 none = .ok (o', d)) (h1 : ¬ s.2.2 < 2 → p_Peek_pick o s.1 (some s.2.1) = .ok (o', d)) : p_law_asked_Peek o s = .ok (o', d) := by
  have hl := h.len
  have hk0 := h.kn
  have hla := h.la
  have this : RO (fun r => r = (o', d)) (p_law_asked_Peek o s) := by
    unfold p_law_asked_Peek
    refine ro_res (out_Ne (lself (by omega)) (out_B (M := fun z => z = (o', s.1, d)) (out_ifd (fun hk => out_Ne (h0 (by omega)) (.nx rfl)) fun hk => out_ifd (fun hk2 => out_Ne (h0 (by omega)) (.nx rfl)) fun hk2 => out_Ne (h1 (by omega)) (.nx rfl)) ?_))
    rintro _ rfl
    exact out_Ne (v := false) (by rw [orR_f (by simp), bN_ok (v := false) (by rw [orR_f (by simp), bN_ok (int_ok _)]; rfl)]) (out_if (fun h => by cases h) fun _ => .rt rfl)
  obtain ⟨v, e, rfl⟩ := this
  exact e
theorem asked_Fixed {s : Scene} (h : Sc s) {o o' : O_Fixed} {d : Int} (h0 : s.2.2 < 2 → p_Fixed_pick o s.1 none = .ok (o', d)) (h1 : ¬ s.2.2 < 2 → p_Fixed_pick o s.1 (some s.2.1) = .ok (o', d)) : p_law_asked_Fixed o s = .ok (o', d) := by
  have hl := h.len
  have hk0 := h.kn
  have hla := h.la
  have this : RO (fun r => r = (o', d)) (p_law_asked_Fixed o s) := by
    unfold p_law_asked_Fixed
    refine ro_res (out_Ne (lself (by omega)) (out_B (M := fun z => z = (o', s.1, d)) (out_ifd (fun hk => out_Ne (h0 (by omega)) (.nx rfl)) fun hk => out_ifd (fun hk2 => out_Ne (h0 (by omega)) (.nx rfl)) fun hk2 => out_Ne (h1 (by omega)) (.nx rfl)) ?_))
    rintro _ rfl
    exact out_Ne (v := false) (by rw [orR_f (by simp), bN_ok (v := false) (by rw [orR_f (by simp), bN_ok (int_ok _)]; rfl)]) (out_if (fun h => by cases h) fun _ => .rt rfl)
  obtain ⟨v, e, rfl⟩ := this
  exact e
end K14
namespace K14
open PySem L2 Mv Ty Sh
theorem digits_ok2 (c n size : Int) (hn : 0 ≤ n) (hn' : n ≤ 1000000) (hs : 0 < size) (hs' : size ≤ 2000000000) : RO (fun row : List Int => (row.length : Int) = n ∧ ∀ x ∈ row, 0 ≤ x ∧ x < size) (p_law_digits c n size) := by
  unfold p_law_digits
  refine ro_res (out_Ne (rngR_ok (by omega) (by omega)) (out_B (out_rng (fun i (s : List Int × Int) => s.1.length = i ∧ ∀ x ∈ s.1, 0 ≤ x ∧ x < size) 0 n.toNat _ ⟨rfl, fun x hx => by cases hx⟩ ?_) ?_))
  · rintro i ⟨row, rest⟩ hi ⟨h1, h2⟩
    dsimp only at h1 h2 ⊢
    have push : ∀ z, ∀ x ∈ row ++ [z % size], 0 ≤ x ∧ x < size := fun z x hx => by
      obtain hx | hx := List.mem_append.mp hx
      · exact h2 x hx
      · rw [List.mem_singleton.mp hx]; exact modB hs
    refine out_if (fun _ => ?_) (fun _ => ?_)
    · refine out_Ne (modR_ok hs) (out_Ne (appR_ok (by omega)) (out_Ne (divR_ok hs (by omega)) (.nx ⟨by simp [h1], push _⟩)))
    · refine out_Ne (mulR_ok (by omega) (by omega) (by omega) (by omega)) (out_lt ?_)
      generalize hm : (((c + 7919 * (0 + (i : Int))) + 13) % 2147483647) = mixed
      have b1 : 0 ≤ mixed ∧ mixed < 2147483647 := by rw [← hm]; exact modB (by decide)
      refine out_Ne (mulR_ok (by omega) (by omega) (by omega) (by omega)) (out_lt ?_)
      generalize hm1 : ((mixed * (mixed + 48271)) % 2147483629) = mixed1
      have b2 : 0 ≤ mixed1 ∧ mixed1 < 2147483629 := by rw [← hm1]; exact modB (by decide)
      refine out_Ne (mulR_ok (by omega) (by omega) (by omega) (by omega)) (out_Ne (mulR_ok (by omega) (by omega) (by omega) (by omega)) (out_lt (out_Ne (modR_ok hs) (out_Ne (appR_ok (by omega)) (.nx ⟨by simp [h1], push _⟩)))))
  · rintro ⟨row, rest⟩ ⟨h1, h2⟩
    dsimp only at h1 h2 ⊢
    exact .rt ⟨by omega, h2⟩
theorem standing_ok {row : List Int} {count many : Int} (hr : (row.length : Int) = 50) (hv : ∀ x ∈ row, 0 ≤ x ∧ x < 55440) (c1 : 1 ≤ count) (c2 : count ≤ 24) (m1 : 1 ≤ many) : RO (fun S : List Int => (S.length : Int) = count ∧ (∀ x ∈ S, -1 ≤ x) ∧ ∃ x ∈ S, 0 ≤ x) (p_law_standing row count many) := by
  have g : ∀ z : Int, 0 ≤ z → z < 50 → ∃ d, ixR row z = .ok d ∧ 0 ≤ d := fun z h0 h1 => by
    obtain ⟨d, e, g⟩ := ixR_ok (xs := row) (z := z) h0 (by omega)
    exact ⟨d, e, (hv d (List.mem_of_getElem? g)).1⟩
  obtain ⟨a, ea, _⟩ := g 1 (by decide) (by decide)
  have bm := modB (a := a / 4) (b := count) (by omega)
  unfold p_law_standing
  refine ro_res (out_Ne ea (out_Ne (modR_ok (by omega)) (out_Ne (rngR_ok (by omega) (by omega)) ?_)))
  generalize a / 4 % count = al at bm
  refine out_B (M := fun S : List Int => (S.length : Int) = count ∧ (∀ x ∈ S, -1 ≤ x) ∧ ∃ x ∈ S, 0 ≤ x) ((out_rng (fun i (S : List Int) => S.length = i ∧ (∀ x ∈ S, -1 ≤ x) ∧ (al < (i : Int) → ∃ x ∈ S, 0 ≤ x)) 0 _ _ ⟨rfl, (fun x hx => by cases hx), fun z => absurd z (by omega)⟩ ?_).w ?_) fun S h => .rt h
  · rintro i S hi ⟨s1, s2, s3⟩
    have e0 : (0 : Int) + (i : Int) = (i : Int) := by omega
    rw [e0]
    have hi2 : (i : Int) < count := by omega
    obtain ⟨d, ed, hd⟩ := g (2 + (i : Int)) (by omega) (by omega)
    have push : ∀ v : Int, -1 ≤ v → (0 ≤ v ∨ (i : Int) ≠ al) → (S ++ [v]).length = i + 1 ∧ (∀ x ∈ S ++ [v], -1 ≤ x) ∧ (al < ((i + 1 : Nat) : Int) → ∃ x ∈ S ++ [v], 0 ≤ x) := fun v h1 h2 => ⟨by rw [List.length_append, s1]; rfl, fun x hx => by
      rcases List.mem_append.mp hx with z | z
      · exact s2 x z
      · rw [List.mem_singleton.mp z]; exact h1, fun z => by
      rcases h2 with h2 | h2
      · exact ⟨v, List.mem_append_right _ (List.mem_singleton.mpr rfl), h2⟩
      · obtain ⟨x, x1, x2⟩ := s3 (by omega)
        exact ⟨x, List.mem_append_left _ x1, x2⟩⟩
    refine out_Ne ed (out_if (fun hk => ?_) fun hk => ?_)
    · have hk : ¬ (i : Int) = al := by have := (Bool.and_eq_true_iff.mp hk).2; simpa using this
      exact out_Ne (appR_ok (by omega)) (.nx (push (-1) (by decide) (.inr hk)))
    · refine out_N (P := fun b => b = true → ∃ p, ixR S ((i : Int) - 1) = .ok p ∧ 0 ≤ p) ?_ fun b _ hb => out_if (fun hc => ?_) fun hc => ?_
      · by_cases h5 : d % 7 = 5
        · by_cases h0 : 0 < (i : Int)
          · obtain ⟨p, ep, _⟩ := ixR_ok (xs := S) (z := (i : Int) - 1) (by omega) (by omega)
            refine ⟨decide (0 ≤ p), ?_, fun z => ⟨p, ep, of_decide_eq_true z⟩⟩
            rw [andR_t (decide_eq_true h5), bN_ok (v := decide (0 ≤ p)) (by rw [andR_t (decide_eq_true h0), bN_ok ep])]
          · refine ⟨false, ?_, fun z => by cases z⟩
            rw [andR_t (decide_eq_true h5), bN_ok (v := false) (by rw [andR_f (decide_eq_false h0)])]
        · exact ⟨false, by rw [andR_f (decide_eq_false h5)], fun z => by cases z⟩
      · obtain ⟨p, ep, hp⟩ := hb hc
        exact out_Ne ep (out_Ne (appR_ok (by omega)) (.nx (push p (by omega) (.inl hp))))
      · have bq := modB (a := d / 7) (b := many) (by omega)
        exact out_Ne (modR_ok (by omega)) (out_Ne (appR_ok (by omega)) (.nx (push _ (by omega) (.inl bq.1))))
  · rintro S ⟨s1, s2, s3⟩
    have h1 : (S.length : Int) = count := by clear s3; omega
    have h2 : al < ((count.toNat : Nat) : Int) := by clear s3; omega
    exact ⟨h1, s2, s3 h2⟩
theorem scene_ok (c : Int) : RO Sc (p_law_scene c) := by
  unfold p_law_scene
  refine ro_res (out_N (digits_ok c 50 55440 (by decide) (by decide) (by decide) (by decide)) fun row _ hrow => ?_)
  obtain ⟨rl, rv⟩ := hrow
  obtain ⟨x0, e0, _⟩ := ixR_ok (xs := row) (z := 0) (by decide) (by omega)
  obtain ⟨x1, e1, _⟩ := ixR_ok (xs := row) (z := 1) (by decide) (by omega)
  have b6 := modB (a := x0) (b := 6) (by decide)
  have b18 := modB (a := x0 / 48) (b := 18) (by decide)
  have b4 := modB (a := x1) (b := 4) (by decide)
  have b4' := modB (a := x1 / 100) (b := 4) (by decide)
  refine out_Ne e0 (out_lt (out_Ne e0 (out_B (M := fun n : Int => 1 ≤ n ∧ n ≤ 24) (out_ifd (fun _ => out_Ne e0 (out_lt (.nx (by omega)))) fun _ => .nx (by omega)) ?_)))
  rintro count ⟨c1, c2⟩
  refine out_Ne e1 (out_N (ro_ixm (Q := fun m : Int => 1 ≤ m) b4.1 (by show x1 % 4 < 4; omega) fun m hm => ?_) fun many _ hmany => out_N (standing_ok rl rv c1 c2 hmany) fun S _ hS => ?_)
  · simp only [List.mem_cons, List.not_mem_nil, or_false] at hm
    omega
  obtain ⟨s1, s2, s3⟩ := hS
  have hpos : 0 < (pl S).length := by
    obtain ⟨x, h1, h2⟩ := s3
    exact List.length_pos_of_mem ((distI_mem x _).mpr (List.mem_filter.mpr ⟨h1, decide_eq_true h2⟩))
  refine out_Ne (spots_ok (by omega)) (out_Ne (rngR_ok (by omega) (by omega)) (out_B (M := fun A : List (List Int) => (A.length : Int) = count ∧ ∀ r ∈ A, r.length ≤ 3) ((out_rng (fun i (A : List (List Int)) => A.length = i ∧ ∀ r ∈ A, r.length ≤ 3) 0 _ _ ⟨rfl, fun r hr => by cases hr⟩ ?_).w fun A h => ⟨by omega, h.2⟩) fun A hA => out_Ne e1 (.rt ⟨by show 1 ≤ S.length ∧ S.length ≤ 24; clear s3; omega, s2, s3, by have := hA.1; show A.length = S.length; clear s3; omega, hA.2, b4'.1⟩)))
  rintro i A hi ⟨a1, a2⟩
  have ez : (0 : Int) + (i : Int) = (i : Int) := by omega
  rw [ez]
  obtain ⟨d, ed, _⟩ := ixR_ok (xs := row) (z := 26 + (i : Int)) (by omega) (by omega)
  have d4 := modB (a := d) (b := 4) (by decide)
  obtain ⟨st, est, _⟩ := ixR_ok (xs := S) (z := (i : Int)) (by omega) (by omega)
  refine out_Ne ed (out_Ne (rngR_ok (by omega) (by omega)) (out_B (M := fun l : List Int => l.length ≤ 3) ((out_rng (fun j (l : List Int) => l.length = j) 0 _ _ rfl ?_).w fun l h => by omega) fun l hl => out_Ne est (out_B (M := fun l : List Int => l.length ≤ 3) (out_if (fun _ => .nx (by decide)) fun _ => .nx hl) fun l2 hl2 => out_Ne (appR_ok (by omega)) (.nx ⟨by rw [List.length_append, a1]; rfl, fun r hr => ?_⟩))))
  · rintro j l hj hl
    have ej : (0 : Int) + (j : Int) = (j : Int) := by omega
    rw [ej]
    have hj3 : (j : Int) < 3 := by omega
    refine out_N (ro_ixm (Q := fun q : Int => 0 < q ∧ q ≤ 2304) (by omega) (by show (j : Int) < 3; omega) fun q hq => ?_) fun q _ hq => ?_
    · simp only [List.mem_cons, List.not_mem_nil, or_false] at hq
      omega
    have bd := modB (a := d / q) (b := ((pl S).length : Int)) (by omega)
    have bz := modB (a := d / q / 6) (b := 4) (by decide)
    obtain ⟨u, eu, _⟩ := ixR_ok (xs := pl S) (z := d / q % ((pl S).length : Int)) bd.1 bd.2
    obtain ⟨w, ew, _⟩ := ixR_ok (xs := ([0, 0, 0, 1] : List Int)) (z := d / q / 6 % 4) bz.1 (by show _ < (4 : Int); omega)
    exact out_Ne (divR_ok hq.1 (by have := hq.2; clear s3; omega)) (out_Ne (modR_ok (by omega)) (out_Ne eu (out_Ne ew (out_Ne (appR_ok (by omega)) (.nx (by rw [List.length_append, hl]; rfl))))))
  · rcases List.mem_append.mp hr with z | z
    · exact a2 r z
    · rw [List.mem_singleton.mp z]; exact hl2
theorem numbers_ok (c : Int) : RO (fun n : List Int => n.length ≤ 4) (p_law_numbers c) := by
  unfold p_law_numbers
  refine ro_res (out_N (digits_ok2 c 5 ((10 ^ 9) + 1) (by decide) (by decide) (by decide) (by decide)) fun row _ hrow => ?_)
  obtain ⟨rl, rv⟩ := hrow
  obtain ⟨x0, e0, _⟩ := ixR_ok (xs := row) (z := 0) (by decide) (by omega)
  have b5 := modB (a := x0) (b := 5) (by decide)
  refine out_Ne e0 (out_Ne (rngR_ok (by omega) (by omega)) (out_B (M := fun l : List Int => l.length ≤ 4) ((out_rng (fun j (l : List Int) => l.length = j) 0 _ _ rfl ?_).w fun l h => by omega) fun l h => .rt h))
  rintro j l hj hl
  have ej : (0 : Int) + (j : Int) = (j : Int) := by omega
  rw [ej]
  obtain ⟨u, eu, _⟩ := ixR_ok (xs := row) (z := 1 + (j : Int)) (by omega) (by omega)
  exact out_Ne e0 (out_if (fun _ => out_Ne eu (out_Ne (appR_ok (by omega)) (.nx (by rw [List.length_append, hl]; rfl)))) fun _ => out_Ne eu (out_Ne (appR_ok (by omega)) (.nx (by rw [List.length_append, hl]; rfl))))
/-- the policies after i of the five have been asked at turn t -/
def Q (n : List Int) (t i : Nat) : List O_Pol := [.LeastNode (), .MostLanes (), .ByRow (n, ((if i ≤ 2 then t else t + 1 : Nat) : Int)), .Peek (), .Fixed (n, ((if i ≤ 4 then t else t + 1 : Nat) : Int))]
theorem ask_ok {s : Scene} (h : Sc s) {n D : List Int} {t : Nat} (hD : Due s n t D) {i : Nat} (hi : i < 5) : ∃ p p' d, atR (Q n t i) ((0 : Int) + (i : Int)) = .ok (i, p) ∧ p_law_asked p s = .ok (p', d) ∧ ixR D ((0 : Int) + (i : Int)) = .ok d ∧ (Q n t i).set i p' = Q n t (i + 1) := by
  have hk : ∀ {d : Int} {j : Nat}, D[j]? = some d → ixR D ((0 : Int) + (j : Int)) = .ok d := fun {d j} e => by rw [show (0 : Int) + (j : Int) = (j : Int) by omega]; exact ixR_get e
  match i, hi with
  | 0, _ =>
    refine ⟨.LeastNode (), .LeastNode (), _, rfl, ?_, hk hD.d0, rfl⟩
    show mapP O_Pol.LeastNode (p_law_asked_LeastNode () s) = _
    rw [asked_LeastNode h (o' := ()) (fun _ => least_pick h () _) fun _ => least_pick h () _]
    rfl
  | 1, _ =>
    obtain ⟨b, eb, hb⟩ := hD.d1
    have q : ∀ sh, p_MostLanes_pick () s.1 sh = .ok ((), b) := fun sh => by
      obtain ⟨r, er, h1, h2⟩ := most_pick h () sh
      rw [er, ← h2.one hb]
    refine ⟨.MostLanes (), .MostLanes (), b, rfl, ?_, hk eb, rfl⟩
    show mapP O_Pol.MostLanes (p_law_asked_MostLanes () s) = _
    rw [asked_MostLanes h (o' := ()) (fun _ => q _) fun _ => q _]
    rfl
  | 2, _ =>
    refine ⟨.ByRow (n, (t : Int)), .ByRow (n, ((t + 1 : Nat) : Int)), _, rfl, ?_, hk hD.d2, rfl⟩
    show mapP O_Pol.ByRow (p_law_asked_ByRow (n, (t : Int)) s) = _
    rw [asked_ByRow h (fun _ => row_pick h n t _) fun _ => row_pick h n t _]
    rfl
  | 3, _ =>
    refine ⟨.Peek (), .Peek (), _, rfl, ?_, hk hD.d3, rfl⟩
    show mapP O_Pol.Peek (p_law_asked_Peek () s) = _
    rw [asked_Peek h (o' := ()) (d := clr s) (fun z => by rw [peek_none h ()]; unfold clr; rw [if_pos z]) fun z => by rw [peek_some h ()]; unfold clr; rw [if_neg z]]
    rfl
  | 4, _ =>
    refine ⟨.Fixed (n, (t : Int)), .Fixed (n, ((t + 1 : Nat) : Int)), _, rfl, ?_, hk hD.d4, rfl⟩
    show mapP O_Pol.Fixed (p_law_asked_Fixed (n, (t : Int)) s) = _
    rw [asked_Fixed h (fun _ => fixed_pick s.1 n t _) fun _ => fixed_pick s.1 n t _]
    rfl
theorem plain_p (s : List Int) : p_law s = .ok true := by
  have this : RO (fun b => b = true) (p_law s) := by
    unfold p_law
    refine ro_res (out_N (seed_ok s 0 (by decide) (by decide)) fun c0 _ _ => out_N (digits_ok c0 1 55440 (by decide) (by decide) (by decide) (by decide)) fun row _ hrow => ?_)
    obtain ⟨rl, rv⟩ := hrow
    obtain ⟨x0, e0, _⟩ := ixR_ok (xs := row) (z := 0) (by decide) (by omega)
    have b6 := modB (a := x0) (b := 6) (by decide)
    refine out_Ne e0 (out_lt ?_)
    obtain ⟨count, hc⟩ : ∃ c : Int, c = 1 + x0 % 6 := ⟨_, rfl⟩
    rw [← hc]
    refine out_Ne (rngR_ok (by omega) (by omega)) (out_N (ro_lc (Q := fun _ r => Sc r) (by rw [rngI_len]; omega) fun k hk => ?_) fun scenes _ hsc => ?_)
    · obtain ⟨i, hi, rfl⟩ := List.getElem_of_mem hk
      have := (rngI_get (List.getElem?_eq_getElem hi)).1
      rw [(rngI_get (List.getElem?_eq_getElem hi)).2]
      obtain ⟨c, e, hc⟩ := seed_ok s (1 + (0 + (i : Int))) (by omega) (by omega)
      obtain ⟨r, e2, hr⟩ := scene_ok c
      exact ⟨r, by rw [bN_ok e, bN_ok e2], hr⟩
    have sl : (scenes.length : Int) = count := by rw [hsc.1, rngI_len]; omega
    have sg : ∀ z : Int, 0 ≤ z → z < count → ∃ sc, ixR scenes z = .ok sc ∧ Sc sc := fun z h0 h1 => by
      obtain ⟨sc, e, g⟩ := ixR_ok (xs := scenes) (z := z) h0 (by omega)
      have e2 : ∃ x, (rngI 0 count.toNat)[z.toNat]? = some x := ⟨_, List.getElem?_eq_getElem (by rw [rngI_len]; omega)⟩
      obtain ⟨x, e2⟩ := e2
      exact ⟨sc, e, hsc.2 z.toNat x sc e2 g⟩
    refine out_N (seed_ok s 7 (by decide) (by decide)) fun c1 _ _ => out_N (numbers_ok c1) fun n _ hn => out_N (seed_ok s 8 (by decide) (by decide)) fun c2 _ _ => out_N (numbers_ok c2) fun m _ hm => out_lt (out_Ne (lself (xs := [n, m]) (by show 2 < 10000000; decide)) ?_)
    have a0 : atR [n, m] 0 = .ok (0, n) := rfl
    have a1 : atR [n, m] 1 = .ok (1, m) := rfl
    refine out_Ne a0 (out_Ne (v := ((n, 0), ())) rfl (out_Ne a0 (out_Ne (v := ((n, 0), ())) rfl (out_lt (out_Ne a1 (out_Ne (v := ((m, 0), ())) rfl (out_Ne a1 (out_Ne (v := ((m, 0), ())) rfl (out_lt (out_if (fun z => by simp at z) fun _ => out_Ne a0 (out_Ne (v := 5 :: n) (by unfold ins0R; rw [if_pos (by show n.length < _; omega)]) (out_Ne (v := (1, m)) rfl (out_Ne (v := 3 :: m) (by unfold ins0R; rw [if_pos (by show m.length < _; omega)]) (out_Ne (rngR_ok (by omega) (by omega)) (out_B (M := fun _ => True) ((out_rng (fun i (q : List O_Pol × List O_Pol) => q = (Q n i 0, Q m i 0)) 0 _ _ rfl ?_).w fun _ _ => True.intro) fun q _ => .rt rfl)))))))))))))))
    rintro t _ ht rfl
    have et : (0 : Int) + (t : Int) = (t : Int) := by omega
    rw [et]
    have bm := modB (a := (t : Int) + 1) (b := count) (by omega)
    obtain ⟨sc, e1, h1⟩ := sg (t : Int) (by omega) (by omega)
    obtain ⟨ah, e2, h2⟩ := sg (((t : Int) + 1) % count) bm.1 bm.2
    have g0 : ixR [n, m] 0 = .ok n := rfl
    have g1 : ixR [n, m] 1 = .ok m := rfl
    refine out_Ne e1 (out_Ne (modR_ok (by omega)) (out_Ne e2 (out_Ne g0 (out_N (dues_ok h1 n t) fun D _ hD => out_Ne g1 (out_N (dues_ok h2 m t) fun L _ hL => out_Ne (rngR_ok (by omega) (by omega)) (out_B (M := fun q => q = (Q n (t + 1) 0, Q m (t + 1) 0)) ((out_rng (fun i (q : List O_Pol × List O_Pol) => q = (Q n t i, Q m t i)) 0 _ _ rfl ?_).w fun q h => h) ?_))))))
    · rintro i _ hi rfl
      have hi5 : i < 5 := hi
      obtain ⟨p, p', d, q1, q2, q3, q4⟩ := ask_ok h1 hD hi5
      obtain ⟨r, r', c, w1, w2, w3, w4⟩ := ask_ok h2 hL hi5
      refine out_Ne q1 (out_Ne q2 (out_Ne q3 (out_if (fun z => by simp at z) fun _ => out_Ne w1 (out_Ne w2 (out_Ne w3 (out_if (fun z => by simp at z) fun _ => .nx ?_))))))
      show ((Q n t i).set i p', (Q m t i).set i r') = _
      rw [q4, w4]
    · rintro _ rfl
      exact .nx rfl
  obtain ⟨v, e, rfl⟩ := this
  exact e
section
variable {P : Program} {K : PySem.W.Frag} {mg : Str → Option Value}
theorem plain (T : Txt P K mg) (ns : List Int) (_ : ns.length ≤ 63) (_ : ∀ z ∈ ns, PySem.Builtin.Int.intBits z ≤ 1048576) : m_law T [.rdl (ns.map .int)] = .ok (0, .bl true) := (t_law T ns).ok (plain_p ns)
end
end K14
namespace K14
open PySem L2 Mv
section
variable {P : Program} {w : World} {K : PySem.W.Frag} {h : Heap} {mg : Str → Option Value} {fa : Addr}
theorem all_mk (X : K.In h) (G : h.Ns mainGlobals mg) (hfa : mg "law" = some (.ref fa))
    {C_ByRow : Addr}
    {C_Fixed : Addr}
    {C_LeastNode : Addr}
    {C_MostLanes : Addr}
    {C_Peek : Addr}
    {t_END : Tok}
    {f_distinct : Addr} {od_distinct an_distinct : Option Addr} {sl_distinct : Array (Option Value)} {oc_distinct kV_distinct dc_distinct pm_distinct cd_distinct ct_distinct : Value}
    {f_occupied : Addr} {od_occupied an_occupied : Option Addr} {sl_occupied : Array (Option Value)} {oc_occupied kV_occupied dc_occupied pm_occupied cd_occupied ct_occupied : Value}
    {f_law_cell : Addr} {od_law_cell an_law_cell : Option Addr} {sl_law_cell : Array (Option Value)} {oc_law_cell kV_law_cell dc_law_cell pm_law_cell cd_law_cell ct_law_cell : Value}
    {f_law_digits : Addr} {od_law_digits an_law_digits : Option Addr} {sl_law_digits : Array (Option Value)} {oc_law_digits kV_law_digits dc_law_digits pm_law_digits cd_law_digits ct_law_digits : Value}
    {f_law_seed : Addr} {od_law_seed an_law_seed : Option Addr} {sl_law_seed : Array (Option Value)} {oc_law_seed kV_law_seed dc_law_seed pm_law_seed cd_law_seed ct_law_seed : Value}
    {f_law_is_int : Addr} {od_law_is_int an_law_is_int : Option Addr} {sl_law_is_int : Array (Option Value)} {oc_law_is_int kV_law_is_int dc_law_is_int pm_law_is_int cd_law_is_int ct_law_is_int : Value}
    {f_law_standing : Addr} {od_law_standing an_law_standing : Option Addr} {sl_law_standing : Array (Option Value)} {oc_law_standing kV_law_standing dc_law_standing pm_law_standing cd_law_standing ct_law_standing : Value}
    {f_law_spots : Addr} {od_law_spots an_law_spots : Option Addr} {sl_law_spots : Array (Option Value)} {oc_law_spots kV_law_spots dc_law_spots pm_law_spots cd_law_spots ct_law_spots : Value}
    {f_law_scene : Addr} {od_law_scene an_law_scene : Option Addr} {sl_law_scene : Array (Option Value)} {oc_law_scene kV_law_scene dc_law_scene pm_law_scene cd_law_scene ct_law_scene : Value}
    {f_law_clear : Addr} {od_law_clear an_law_clear : Option Addr} {sl_law_clear : Array (Option Value)} {oc_law_clear kV_law_clear dc_law_clear pm_law_clear cd_law_clear ct_law_clear : Value}
    {f_law_numbers : Addr} {od_law_numbers an_law_numbers : Option Addr} {sl_law_numbers : Array (Option Value)} {oc_law_numbers kV_law_numbers dc_law_numbers pm_law_numbers cd_law_numbers ct_law_numbers : Value}
    {f_law_dues : Addr} {od_law_dues an_law_dues : Option Addr} {sl_law_dues : Array (Option Value)} {oc_law_dues kV_law_dues dc_law_dues pm_law_dues cd_law_dues ct_law_dues : Value}
    {f_LeastNode_pick : Addr} {od_LeastNode_pick an_LeastNode_pick : Option Addr} {sl_LeastNode_pick : Array (Option Value)} {oc_LeastNode_pick dc_LeastNode_pick pm_LeastNode_pick cd_LeastNode_pick ct_LeastNode_pick : Value}
    {kd_LeastNode_pick : Addr}
    {f_MostLanes_pick : Addr} {od_MostLanes_pick an_MostLanes_pick : Option Addr} {sl_MostLanes_pick : Array (Option Value)} {oc_MostLanes_pick dc_MostLanes_pick pm_MostLanes_pick cd_MostLanes_pick ct_MostLanes_pick : Value}
    {kd_MostLanes_pick : Addr}
    {f_ByRow_pick : Addr} {od_ByRow_pick an_ByRow_pick : Option Addr} {sl_ByRow_pick : Array (Option Value)} {oc_ByRow_pick dc_ByRow_pick pm_ByRow_pick cd_ByRow_pick ct_ByRow_pick : Value}
    {kd_ByRow_pick : Addr}
    {f_Fixed_pick : Addr} {od_Fixed_pick an_Fixed_pick : Option Addr} {sl_Fixed_pick : Array (Option Value)} {oc_Fixed_pick dc_Fixed_pick pm_Fixed_pick cd_Fixed_pick ct_Fixed_pick : Value}
    {kd_Fixed_pick : Addr}
    {f_Peek_pick : Addr} {od_Peek_pick an_Peek_pick : Option Addr} {sl_Peek_pick : Array (Option Value)} {oc_Peek_pick dc_Peek_pick pm_Peek_pick cd_Peek_pick ct_Peek_pick : Value}
    {kd_Peek_pick : Addr}
    {f_law_asked : Addr} {od_law_asked an_law_asked : Option Addr} {sl_law_asked : Array (Option Value)} {oc_law_asked kV_law_asked dc_law_asked pm_law_asked cd_law_asked ct_law_asked : Value}
    {f_ByRow_init : Addr} {od_ByRow_init an_ByRow_init : Option Addr} {sl_ByRow_init : Array (Option Value)} {oc_ByRow_init kV_ByRow_init dc_ByRow_init pm_ByRow_init cd_ByRow_init ct_ByRow_init : Value}
    {f_Fixed_init : Addr} {od_Fixed_init an_Fixed_init : Option Addr} {sl_Fixed_init : Array (Option Value)} {oc_Fixed_init kV_Fixed_init dc_Fixed_init pm_Fixed_init cd_Fixed_init ct_Fixed_init : Value}
    {f_law : Addr} {od_law an_law : Option Addr} {sl_law : Array (Option Value)} {oc_law kV_law dc_law pm_law cd_law ct_law : Value}
    (aC_ByRow : PySem.W.nsIn K mainGlobals "ByRow" = some (some (.ref C_ByRow)))
    (c1_ByRow : PySem.W.plainGet K C_ByRow Str.empty = true)
    (c2_ByRow : PySem.W.hasDictIn K C_ByRow = true)
    (c3_ByRow : PySem.W.plainOver K C_ByRow = true)
    (c4_ByRow : PySem.W.findIn K (.ref C_ByRow) "__setattr__" = some (some (.builtin "object.__setattr__")))
    (m1_ByRow : PySem.W.makesIn K C_ByRow = true)
    (m4_ByRow : PySem.W.keepIn K (.ref C_ByRow) = true)
    (nf_ByRow_numbers : PySem.W.findIn K (.ref C_ByRow) "numbers" = some none)
    (nf_ByRow_picks : PySem.W.findIn K (.ref C_ByRow) "picks" = some none)
    (aC_Fixed : PySem.W.nsIn K mainGlobals "Fixed" = some (some (.ref C_Fixed)))
    (c1_Fixed : PySem.W.plainGet K C_Fixed Str.empty = true)
    (c2_Fixed : PySem.W.hasDictIn K C_Fixed = true)
    (c3_Fixed : PySem.W.plainOver K C_Fixed = true)
    (c4_Fixed : PySem.W.findIn K (.ref C_Fixed) "__setattr__" = some (some (.builtin "object.__setattr__")))
    (m1_Fixed : PySem.W.makesIn K C_Fixed = true)
    (m4_Fixed : PySem.W.keepIn K (.ref C_Fixed) = true)
    (nf_Fixed_asked : PySem.W.findIn K (.ref C_Fixed) "asked" = some none)
    (nf_Fixed_listed : PySem.W.findIn K (.ref C_Fixed) "listed" = some none)
    (aC_LeastNode : PySem.W.nsIn K mainGlobals "LeastNode" = some (some (.ref C_LeastNode)))
    (c1_LeastNode : PySem.W.plainGet K C_LeastNode Str.empty = true)
    (c2_LeastNode : PySem.W.hasDictIn K C_LeastNode = true)
    (c3_LeastNode : PySem.W.plainOver K C_LeastNode = true)
    (c4_LeastNode : PySem.W.findIn K (.ref C_LeastNode) "__setattr__" = some (some (.builtin "object.__setattr__")))
    (m1_LeastNode : PySem.W.makesIn K C_LeastNode = true)
    (m4_LeastNode : PySem.W.keepIn K (.ref C_LeastNode) = true)
    (i0_LeastNode : PySem.W.findIn K (.ref C_LeastNode) "__init__" = some (some (.builtin "object.__init__")))
    (tp_LeastNode : PySem.W.mroIn K C_LeastNode (.type "object") = some true)
    (aC_MostLanes : PySem.W.nsIn K mainGlobals "MostLanes" = some (some (.ref C_MostLanes)))
    (c1_MostLanes : PySem.W.plainGet K C_MostLanes Str.empty = true)
    (c2_MostLanes : PySem.W.hasDictIn K C_MostLanes = true)
    (c3_MostLanes : PySem.W.plainOver K C_MostLanes = true)
    (c4_MostLanes : PySem.W.findIn K (.ref C_MostLanes) "__setattr__" = some (some (.builtin "object.__setattr__")))
    (m1_MostLanes : PySem.W.makesIn K C_MostLanes = true)
    (m4_MostLanes : PySem.W.keepIn K (.ref C_MostLanes) = true)
    (i0_MostLanes : PySem.W.findIn K (.ref C_MostLanes) "__init__" = some (some (.builtin "object.__init__")))
    (tp_MostLanes : PySem.W.mroIn K C_MostLanes (.type "object") = some true)
    (aC_Peek : PySem.W.nsIn K mainGlobals "Peek" = some (some (.ref C_Peek)))
    (c1_Peek : PySem.W.plainGet K C_Peek Str.empty = true)
    (c2_Peek : PySem.W.hasDictIn K C_Peek = true)
    (c3_Peek : PySem.W.plainOver K C_Peek = true)
    (c4_Peek : PySem.W.findIn K (.ref C_Peek) "__setattr__" = some (some (.builtin "object.__setattr__")))
    (m1_Peek : PySem.W.makesIn K C_Peek = true)
    (m4_Peek : PySem.W.keepIn K (.ref C_Peek) = true)
    (i0_Peek : PySem.W.findIn K (.ref C_Peek) "__init__" = some (some (.builtin "object.__init__")))
    (tp_Peek : PySem.W.mroIn K C_Peek (.type "object") = some true)
    (n_END : PySem.W.nsIn K mainGlobals "END" = some (some (.int (-1) t_END)))
    (a_distinct : PySem.W.nsIn K mainGlobals "distinct" = some (some (.ref f_distinct)))
    (l_distinct : K.lookup f_distinct = some ⟨oc_distinct, od_distinct, .func (PySem.W.fnOf "distinct" "distinct" (defArgs s_distinct) (defBody s_distinct) (defScope s_distinct) .none kV_distinct dc_distinct pm_distinct an_distinct cd_distinct ct_distinct), sl_distinct⟩)
    (c_distinct : PySem.W.codeIn K cd_distinct "distinct" = true)
    (k_distinct : PySem.W.keepIn K (.ref f_distinct) = true)
    (a_occupied : PySem.W.nsIn K mainGlobals "occupied" = some (some (.ref f_occupied)))
    (l_occupied : K.lookup f_occupied = some ⟨oc_occupied, od_occupied, .func (PySem.W.fnOf "occupied" "occupied" (defArgs s_occupied) (defBody s_occupied) (defScope s_occupied) .none kV_occupied dc_occupied pm_occupied an_occupied cd_occupied ct_occupied), sl_occupied⟩)
    (c_occupied : PySem.W.codeIn K cd_occupied "occupied" = true)
    (k_occupied : PySem.W.keepIn K (.ref f_occupied) = true)
    (a_law_cell : PySem.W.nsIn K mainGlobals "_law_cell" = some (some (.ref f_law_cell)))
    (l_law_cell : K.lookup f_law_cell = some ⟨oc_law_cell, od_law_cell, .func (PySem.W.fnOf "_law_cell" "_law_cell" (defArgs s_law_cell) (defBody s_law_cell) (defScope s_law_cell) .none kV_law_cell dc_law_cell pm_law_cell an_law_cell cd_law_cell ct_law_cell), sl_law_cell⟩)
    (c_law_cell : PySem.W.codeIn K cd_law_cell "_law_cell" = true)
    (k_law_cell : PySem.W.keepIn K (.ref f_law_cell) = true)
    (a_law_digits : PySem.W.nsIn K mainGlobals "_law_digits" = some (some (.ref f_law_digits)))
    (l_law_digits : K.lookup f_law_digits = some ⟨oc_law_digits, od_law_digits, .func (PySem.W.fnOf "_law_digits" "_law_digits" (defArgs s_law_digits) (defBody s_law_digits) (defScope s_law_digits) .none kV_law_digits dc_law_digits pm_law_digits an_law_digits cd_law_digits ct_law_digits), sl_law_digits⟩)
    (c_law_digits : PySem.W.codeIn K cd_law_digits "_law_digits" = true)
    (k_law_digits : PySem.W.keepIn K (.ref f_law_digits) = true)
    (a_law_seed : PySem.W.nsIn K mainGlobals "_law_seed" = some (some (.ref f_law_seed)))
    (l_law_seed : K.lookup f_law_seed = some ⟨oc_law_seed, od_law_seed, .func (PySem.W.fnOf "_law_seed" "_law_seed" (defArgs s_law_seed) (defBody s_law_seed) (defScope s_law_seed) .none kV_law_seed dc_law_seed pm_law_seed an_law_seed cd_law_seed ct_law_seed), sl_law_seed⟩)
    (c_law_seed : PySem.W.codeIn K cd_law_seed "_law_seed" = true)
    (k_law_seed : PySem.W.keepIn K (.ref f_law_seed) = true)
    (a_law_is_int : PySem.W.nsIn K mainGlobals "_law_is_int" = some (some (.ref f_law_is_int)))
    (l_law_is_int : K.lookup f_law_is_int = some ⟨oc_law_is_int, od_law_is_int, .func (PySem.W.fnOf "_law_is_int" "_law_is_int" (defArgs s_law_is_int) (defBody s_law_is_int) (defScope s_law_is_int) .none kV_law_is_int dc_law_is_int pm_law_is_int an_law_is_int cd_law_is_int ct_law_is_int), sl_law_is_int⟩)
    (c_law_is_int : PySem.W.codeIn K cd_law_is_int "_law_is_int" = true)
    (k_law_is_int : PySem.W.keepIn K (.ref f_law_is_int) = true)
    (a_law_standing : PySem.W.nsIn K mainGlobals "_law_standing" = some (some (.ref f_law_standing)))
    (l_law_standing : K.lookup f_law_standing = some ⟨oc_law_standing, od_law_standing, .func (PySem.W.fnOf "_law_standing" "_law_standing" (defArgs s_law_standing) (defBody s_law_standing) (defScope s_law_standing) .none kV_law_standing dc_law_standing pm_law_standing an_law_standing cd_law_standing ct_law_standing), sl_law_standing⟩)
    (c_law_standing : PySem.W.codeIn K cd_law_standing "_law_standing" = true)
    (k_law_standing : PySem.W.keepIn K (.ref f_law_standing) = true)
    (a_law_spots : PySem.W.nsIn K mainGlobals "_law_spots" = some (some (.ref f_law_spots)))
    (l_law_spots : K.lookup f_law_spots = some ⟨oc_law_spots, od_law_spots, .func (PySem.W.fnOf "_law_spots" "_law_spots" (defArgs s_law_spots) (defBody s_law_spots) (defScope s_law_spots) .none kV_law_spots dc_law_spots pm_law_spots an_law_spots cd_law_spots ct_law_spots), sl_law_spots⟩)
    (c_law_spots : PySem.W.codeIn K cd_law_spots "_law_spots" = true)
    (k_law_spots : PySem.W.keepIn K (.ref f_law_spots) = true)
    (a_law_scene : PySem.W.nsIn K mainGlobals "_law_scene" = some (some (.ref f_law_scene)))
    (l_law_scene : K.lookup f_law_scene = some ⟨oc_law_scene, od_law_scene, .func (PySem.W.fnOf "_law_scene" "_law_scene" (defArgs s_law_scene) (defBody s_law_scene) (defScope s_law_scene) .none kV_law_scene dc_law_scene pm_law_scene an_law_scene cd_law_scene ct_law_scene), sl_law_scene⟩)
    (c_law_scene : PySem.W.codeIn K cd_law_scene "_law_scene" = true)
    (k_law_scene : PySem.W.keepIn K (.ref f_law_scene) = true)
    (a_law_clear : PySem.W.nsIn K mainGlobals "_law_clear" = some (some (.ref f_law_clear)))
    (l_law_clear : K.lookup f_law_clear = some ⟨oc_law_clear, od_law_clear, .func (PySem.W.fnOf "_law_clear" "_law_clear" (defArgs s_law_clear) (defBody s_law_clear) (defScope s_law_clear) .none kV_law_clear dc_law_clear pm_law_clear an_law_clear cd_law_clear ct_law_clear), sl_law_clear⟩)
    (c_law_clear : PySem.W.codeIn K cd_law_clear "_law_clear" = true)
    (k_law_clear : PySem.W.keepIn K (.ref f_law_clear) = true)
    (a_law_numbers : PySem.W.nsIn K mainGlobals "_law_numbers" = some (some (.ref f_law_numbers)))
    (l_law_numbers : K.lookup f_law_numbers = some ⟨oc_law_numbers, od_law_numbers, .func (PySem.W.fnOf "_law_numbers" "_law_numbers" (defArgs s_law_numbers) (defBody s_law_numbers) (defScope s_law_numbers) .none kV_law_numbers dc_law_numbers pm_law_numbers an_law_numbers cd_law_numbers ct_law_numbers), sl_law_numbers⟩)
    (c_law_numbers : PySem.W.codeIn K cd_law_numbers "_law_numbers" = true)
    (k_law_numbers : PySem.W.keepIn K (.ref f_law_numbers) = true)
    (a_law_dues : PySem.W.nsIn K mainGlobals "_law_dues" = some (some (.ref f_law_dues)))
    (l_law_dues : K.lookup f_law_dues = some ⟨oc_law_dues, od_law_dues, .func (PySem.W.fnOf "_law_dues" "_law_dues" (defArgs s_law_dues) (defBody s_law_dues) (defScope s_law_dues) .none kV_law_dues dc_law_dues pm_law_dues an_law_dues cd_law_dues ct_law_dues), sl_law_dues⟩)
    (c_law_dues : PySem.W.codeIn K cd_law_dues "_law_dues" = true)
    (k_law_dues : PySem.W.keepIn K (.ref f_law_dues) = true)
    (a_LeastNode_pick : PySem.W.findIn K (.ref C_LeastNode) "pick" = some (some (.ref f_LeastNode_pick)))
    (i_LeastNode_pick : PySem.W.isFn K (.ref f_LeastNode_pick) = true)
    (l_LeastNode_pick : K.lookup f_LeastNode_pick = some ⟨oc_LeastNode_pick, od_LeastNode_pick, .func (PySem.W.fnOf "pick" "LeastNode.pick" (defArgs s_LeastNode_pick) (defBody s_LeastNode_pick) (defScope s_LeastNode_pick) .none (.ref kd_LeastNode_pick) dc_LeastNode_pick pm_LeastNode_pick an_LeastNode_pick cd_LeastNode_pick ct_LeastNode_pick), sl_LeastNode_pick⟩)
    (kw_LeastNode_pick : PySem.W.nsIn K kd_LeastNode_pick "shown" = some (some .none))
    (c_LeastNode_pick : PySem.W.codeIn K cd_LeastNode_pick "LeastNode.pick" = true)
    (k_LeastNode_pick : PySem.W.keepIn K (.ref f_LeastNode_pick) = true)
    (a_MostLanes_pick : PySem.W.findIn K (.ref C_MostLanes) "pick" = some (some (.ref f_MostLanes_pick)))
    (i_MostLanes_pick : PySem.W.isFn K (.ref f_MostLanes_pick) = true)
    (l_MostLanes_pick : K.lookup f_MostLanes_pick = some ⟨oc_MostLanes_pick, od_MostLanes_pick, .func (PySem.W.fnOf "pick" "MostLanes.pick" (defArgs s_MostLanes_pick) (defBody s_MostLanes_pick) (defScope s_MostLanes_pick) .none (.ref kd_MostLanes_pick) dc_MostLanes_pick pm_MostLanes_pick an_MostLanes_pick cd_MostLanes_pick ct_MostLanes_pick), sl_MostLanes_pick⟩)
    (kw_MostLanes_pick : PySem.W.nsIn K kd_MostLanes_pick "shown" = some (some .none))
    (c_MostLanes_pick : PySem.W.codeIn K cd_MostLanes_pick "MostLanes.pick" = true)
    (k_MostLanes_pick : PySem.W.keepIn K (.ref f_MostLanes_pick) = true)
    (a_ByRow_pick : PySem.W.findIn K (.ref C_ByRow) "pick" = some (some (.ref f_ByRow_pick)))
    (i_ByRow_pick : PySem.W.isFn K (.ref f_ByRow_pick) = true)
    (l_ByRow_pick : K.lookup f_ByRow_pick = some ⟨oc_ByRow_pick, od_ByRow_pick, .func (PySem.W.fnOf "pick" "ByRow.pick" (defArgs s_ByRow_pick) (defBody s_ByRow_pick) (defScope s_ByRow_pick) .none (.ref kd_ByRow_pick) dc_ByRow_pick pm_ByRow_pick an_ByRow_pick cd_ByRow_pick ct_ByRow_pick), sl_ByRow_pick⟩)
    (kw_ByRow_pick : PySem.W.nsIn K kd_ByRow_pick "shown" = some (some .none))
    (c_ByRow_pick : PySem.W.codeIn K cd_ByRow_pick "ByRow.pick" = true)
    (k_ByRow_pick : PySem.W.keepIn K (.ref f_ByRow_pick) = true)
    (a_Fixed_pick : PySem.W.findIn K (.ref C_Fixed) "pick" = some (some (.ref f_Fixed_pick)))
    (i_Fixed_pick : PySem.W.isFn K (.ref f_Fixed_pick) = true)
    (l_Fixed_pick : K.lookup f_Fixed_pick = some ⟨oc_Fixed_pick, od_Fixed_pick, .func (PySem.W.fnOf "pick" "Fixed.pick" (defArgs s_Fixed_pick) (defBody s_Fixed_pick) (defScope s_Fixed_pick) .none (.ref kd_Fixed_pick) dc_Fixed_pick pm_Fixed_pick an_Fixed_pick cd_Fixed_pick ct_Fixed_pick), sl_Fixed_pick⟩)
    (kw_Fixed_pick : PySem.W.nsIn K kd_Fixed_pick "shown" = some (some .none))
    (c_Fixed_pick : PySem.W.codeIn K cd_Fixed_pick "Fixed.pick" = true)
    (k_Fixed_pick : PySem.W.keepIn K (.ref f_Fixed_pick) = true)
    (a_Peek_pick : PySem.W.findIn K (.ref C_Peek) "pick" = some (some (.ref f_Peek_pick)))
    (i_Peek_pick : PySem.W.isFn K (.ref f_Peek_pick) = true)
    (l_Peek_pick : K.lookup f_Peek_pick = some ⟨oc_Peek_pick, od_Peek_pick, .func (PySem.W.fnOf "pick" "Peek.pick" (defArgs s_Peek_pick) (defBody s_Peek_pick) (defScope s_Peek_pick) .none (.ref kd_Peek_pick) dc_Peek_pick pm_Peek_pick an_Peek_pick cd_Peek_pick ct_Peek_pick), sl_Peek_pick⟩)
    (kw_Peek_pick : PySem.W.nsIn K kd_Peek_pick "shown" = some (some .none))
    (c_Peek_pick : PySem.W.codeIn K cd_Peek_pick "Peek.pick" = true)
    (k_Peek_pick : PySem.W.keepIn K (.ref f_Peek_pick) = true)
    (a_law_asked : PySem.W.nsIn K mainGlobals "_law_asked" = some (some (.ref f_law_asked)))
    (l_law_asked : K.lookup f_law_asked = some ⟨oc_law_asked, od_law_asked, .func (PySem.W.fnOf "_law_asked" "_law_asked" (defArgs s_law_asked) (defBody s_law_asked) (defScope s_law_asked) .none kV_law_asked dc_law_asked pm_law_asked an_law_asked cd_law_asked ct_law_asked), sl_law_asked⟩)
    (c_law_asked : PySem.W.codeIn K cd_law_asked "_law_asked" = true)
    (k_law_asked : PySem.W.keepIn K (.ref f_law_asked) = true)
    (a_ByRow_init : PySem.W.findIn K (.ref C_ByRow) "__init__" = some (some (.ref f_ByRow_init)))
    (i_ByRow_init : PySem.W.isFn K (.ref f_ByRow_init) = true)
    (l_ByRow_init : K.lookup f_ByRow_init = some ⟨oc_ByRow_init, od_ByRow_init, .func (PySem.W.fnOf "__init__" "ByRow.__init__" (defArgs s_ByRow_init) (defBody s_ByRow_init) (defScope s_ByRow_init) .none kV_ByRow_init dc_ByRow_init pm_ByRow_init an_ByRow_init cd_ByRow_init ct_ByRow_init), sl_ByRow_init⟩)
    (c_ByRow_init : PySem.W.codeIn K cd_ByRow_init "ByRow.__init__" = true)
    (k_ByRow_init : PySem.W.keepIn K (.ref f_ByRow_init) = true)
    (a_Fixed_init : PySem.W.findIn K (.ref C_Fixed) "__init__" = some (some (.ref f_Fixed_init)))
    (i_Fixed_init : PySem.W.isFn K (.ref f_Fixed_init) = true)
    (l_Fixed_init : K.lookup f_Fixed_init = some ⟨oc_Fixed_init, od_Fixed_init, .func (PySem.W.fnOf "__init__" "Fixed.__init__" (defArgs s_Fixed_init) (defBody s_Fixed_init) (defScope s_Fixed_init) .none kV_Fixed_init dc_Fixed_init pm_Fixed_init an_Fixed_init cd_Fixed_init ct_Fixed_init), sl_Fixed_init⟩)
    (c_Fixed_init : PySem.W.codeIn K cd_Fixed_init "Fixed.__init__" = true)
    (k_Fixed_init : PySem.W.keepIn K (.ref f_Fixed_init) = true)
    (a_law : PySem.W.nsIn K mainGlobals "law" = some (some (.ref f_law)))
    (l_law : K.lookup f_law = some ⟨oc_law, od_law, .func (PySem.W.fnOf "law" "law" (defArgs s_law) (defBody s_law) (defScope s_law) .none kV_law dc_law pm_law an_law cd_law ct_law), sl_law⟩)
    (c_law : PySem.W.codeIn K cd_law "law" = true)
    (k_law : PySem.W.keepIn K (.ref f_law) = true)
    (z_len : PySem.W.nsIn K mainGlobals "len" = some none)
    (z_abs : PySem.W.nsIn K mainGlobals "abs" = some none)
    (z_int : PySem.W.nsIn K mainGlobals "int" = some none)
    (z_list : PySem.W.nsIn K mainGlobals "list" = some none)
    (z_range : PySem.W.nsIn K mainGlobals "range" = some none)
    (z_min : PySem.W.nsIn K mainGlobals "min" = some none)
    (z_max : PySem.W.nsIn K mainGlobals "max" = some none)
    (z_sorted : PySem.W.nsIn K mainGlobals "sorted" = some none)
    (z_set : PySem.W.nsIn K mainGlobals "set" = some none)
    (z_tuple : PySem.W.nsIn K mainGlobals "tuple" = some none)
    (z_isinstance : PySem.W.nsIn K mainGlobals "isinstance" = some none)
    (z_bool : PySem.W.nsIn K mainGlobals "bool" = some none)
    (nd_Pol : [C_LeastNode, C_MostLanes, C_ByRow, C_Peek, C_Fixed].Nodup) :
    ∃ fd : FuncData, (∀ (s : Shared) (v : Value), BindsTo s fd ⟨[v], []⟩ [("_law_script", v)]) ∧ ∀ base : Heap, K.In base → base.Ns mainGlobals mg → FnOk P w K mg base (L2N.CX P w) 5 fa fd ["_law_script"] (spLaw K) := by
  have e := hfa.symm.trans (PySem.W.mg_of X G a_law)
  cases e
  have F_distinct := fun_mk (st := s_distinct) l_distinct c_distinct k_distinct
  have b_distinct := F_distinct.binds (ps := ["row"]) fun _ _ _ _ _ _ us hl => match us, hl with | [_], _ => rfl
  have F_occupied := fun_mk (st := s_occupied) l_occupied c_occupied k_occupied
  have b_occupied := F_occupied.binds (ps := ["standing"]) fun _ _ _ _ _ _ us hl => match us, hl with | [_], _ => rfl
  have F_law_cell := fun_mk (st := s_law_cell) l_law_cell c_law_cell k_law_cell
  have b_law_cell := F_law_cell.binds (ps := ["_law_script", "_law_k"]) fun _ _ _ _ _ _ us hl => match us, hl with | [_, _], _ => rfl
  have F_law_digits := fun_mk (st := s_law_digits) l_law_digits c_law_digits k_law_digits
  have b_law_digits := F_law_digits.binds (ps := ["_law_cell_here", "_law_count", "_law_size"]) fun _ _ _ _ _ _ us hl => match us, hl with | [_, _, _], _ => rfl
  have F_law_seed := fun_mk (st := s_law_seed) l_law_seed c_law_seed k_law_seed
  have b_law_seed := F_law_seed.binds (ps := ["_law_script", "_law_k"]) fun _ _ _ _ _ _ us hl => match us, hl with | [_, _], _ => rfl
  have F_law_is_int := fun_mk (st := s_law_is_int) l_law_is_int c_law_is_int k_law_is_int
  have b_law_is_int := F_law_is_int.binds (ps := ["_law_value"]) fun _ _ _ _ _ _ us hl => match us, hl with | [_], _ => rfl
  have F_law_standing := fun_mk (st := s_law_standing) l_law_standing c_law_standing k_law_standing
  have b_law_standing := F_law_standing.binds (ps := ["_law_row", "_law_count", "_law_many"]) fun _ _ _ _ _ _ us hl => match us, hl with | [_, _, _], _ => rfl
  have F_law_spots := fun_mk (st := s_law_spots) l_law_spots c_law_spots k_law_spots
  have b_law_spots := F_law_spots.binds (ps := ["_law_standing_here"]) fun _ _ _ _ _ _ us hl => match us, hl with | [_], _ => rfl
  have F_law_scene := fun_mk (st := s_law_scene) l_law_scene c_law_scene k_law_scene
  have b_law_scene := F_law_scene.binds (ps := ["_law_cell_here"]) fun _ _ _ _ _ _ us hl => match us, hl with | [_], _ => rfl
  have F_law_clear := fun_mk (st := s_law_clear) l_law_clear c_law_clear k_law_clear
  have b_law_clear := F_law_clear.binds (ps := ["_law_scene_here", "_law_places"]) fun _ _ _ _ _ _ us hl => match us, hl with | [_, _], _ => rfl
  have F_law_numbers := fun_mk (st := s_law_numbers) l_law_numbers c_law_numbers k_law_numbers
  have b_law_numbers := F_law_numbers.binds (ps := ["_law_cell_here"]) fun _ _ _ _ _ _ us hl => match us, hl with | [_], _ => rfl
  have F_law_dues := fun_mk (st := s_law_dues) l_law_dues c_law_dues k_law_dues
  have b_law_dues := F_law_dues.binds (ps := ["_law_scene_here", "_law_numbers_here", "_law_turn"]) fun _ _ _ _ _ _ us hl => match us, hl with | [_, _, _], _ => rfl
  have F_LeastNode_pick := fun_mk (st := s_LeastNode_pick) l_LeastNode_pick c_LeastNode_pick k_LeastNode_pick
  have kb_LeastNode_pick : KB K (PySem.W.fnOf "pick" "LeastNode.pick" (defArgs s_LeastNode_pick) (defBody s_LeastNode_pick) (defScope s_LeastNode_pick) .none (.ref kd_LeastNode_pick) dc_LeastNode_pick pm_LeastNode_pick an_LeastNode_pick cd_LeastNode_pick ct_LeastNode_pick) ["self", "standing", "shown"] 2 ["shown"] := ⟨fun s us ws _ l1 l2 => match us, l1, ws, l2 with | [_, _], _, [_], _ => .of_eq rfl, fun r1 r2 => r1.append r2⟩
  have d_LeastNode_pick := FunD.binds0 (ps := ["self", "standing", "shown"]) (kws := [("shown", V.non)]) ⟨⟨_, _, .none, .ref kd_LeastNode_pick, _, _, _, _, _, _, rfl, l_LeastNode_pick, c_LeastNode_pick, .inl ⟨rfl, rfl⟩, .inr ⟨kd_LeastNode_pick, rfl, fun qq hq => by (cases List.mem_singleton.mp hq); exact ⟨_, kw_LeastNode_pick, rfl⟩⟩⟩, k_LeastNode_pick⟩ 2 (by simp) rfl fun D doc pm an cdv ct us ks hl hk => match us, hl, ks, hk with | [_, _], _, [_], _ => ⟨_, _, _, _, _, _, rfl, rfl, rfl⟩
  have F_MostLanes_pick := fun_mk (st := s_MostLanes_pick) l_MostLanes_pick c_MostLanes_pick k_MostLanes_pick
  have kb_MostLanes_pick : KB K (PySem.W.fnOf "pick" "MostLanes.pick" (defArgs s_MostLanes_pick) (defBody s_MostLanes_pick) (defScope s_MostLanes_pick) .none (.ref kd_MostLanes_pick) dc_MostLanes_pick pm_MostLanes_pick an_MostLanes_pick cd_MostLanes_pick ct_MostLanes_pick) ["self", "standing", "shown"] 2 ["shown"] := ⟨fun s us ws _ l1 l2 => match us, l1, ws, l2 with | [_, _], _, [_], _ => .of_eq rfl, fun r1 r2 => r1.append r2⟩
  have d_MostLanes_pick := FunD.binds0 (ps := ["self", "standing", "shown"]) (kws := [("shown", V.non)]) ⟨⟨_, _, .none, .ref kd_MostLanes_pick, _, _, _, _, _, _, rfl, l_MostLanes_pick, c_MostLanes_pick, .inl ⟨rfl, rfl⟩, .inr ⟨kd_MostLanes_pick, rfl, fun qq hq => by (cases List.mem_singleton.mp hq); exact ⟨_, kw_MostLanes_pick, rfl⟩⟩⟩, k_MostLanes_pick⟩ 2 (by simp) rfl fun D doc pm an cdv ct us ks hl hk => match us, hl, ks, hk with | [_, _], _, [_], _ => ⟨_, _, _, _, _, _, rfl, rfl, rfl⟩
  have F_ByRow_pick := fun_mk (st := s_ByRow_pick) l_ByRow_pick c_ByRow_pick k_ByRow_pick
  have kb_ByRow_pick : KB K (PySem.W.fnOf "pick" "ByRow.pick" (defArgs s_ByRow_pick) (defBody s_ByRow_pick) (defScope s_ByRow_pick) .none (.ref kd_ByRow_pick) dc_ByRow_pick pm_ByRow_pick an_ByRow_pick cd_ByRow_pick ct_ByRow_pick) ["self", "standing", "shown"] 2 ["shown"] := ⟨fun s us ws _ l1 l2 => match us, l1, ws, l2 with | [_, _], _, [_], _ => .of_eq rfl, fun r1 r2 => r1.append r2⟩
  have d_ByRow_pick := FunD.binds0 (ps := ["self", "standing", "shown"]) (kws := [("shown", V.non)]) ⟨⟨_, _, .none, .ref kd_ByRow_pick, _, _, _, _, _, _, rfl, l_ByRow_pick, c_ByRow_pick, .inl ⟨rfl, rfl⟩, .inr ⟨kd_ByRow_pick, rfl, fun qq hq => by (cases List.mem_singleton.mp hq); exact ⟨_, kw_ByRow_pick, rfl⟩⟩⟩, k_ByRow_pick⟩ 2 (by simp) rfl fun D doc pm an cdv ct us ks hl hk => match us, hl, ks, hk with | [_, _], _, [_], _ => ⟨_, _, _, _, _, _, rfl, rfl, rfl⟩
  have F_Fixed_pick := fun_mk (st := s_Fixed_pick) l_Fixed_pick c_Fixed_pick k_Fixed_pick
  have kb_Fixed_pick : KB K (PySem.W.fnOf "pick" "Fixed.pick" (defArgs s_Fixed_pick) (defBody s_Fixed_pick) (defScope s_Fixed_pick) .none (.ref kd_Fixed_pick) dc_Fixed_pick pm_Fixed_pick an_Fixed_pick cd_Fixed_pick ct_Fixed_pick) ["self", "standing", "shown"] 2 ["shown"] := ⟨fun s us ws _ l1 l2 => match us, l1, ws, l2 with | [_, _], _, [_], _ => .of_eq rfl, fun r1 r2 => r1.append r2⟩
  have d_Fixed_pick := FunD.binds0 (ps := ["self", "standing", "shown"]) (kws := [("shown", V.non)]) ⟨⟨_, _, .none, .ref kd_Fixed_pick, _, _, _, _, _, _, rfl, l_Fixed_pick, c_Fixed_pick, .inl ⟨rfl, rfl⟩, .inr ⟨kd_Fixed_pick, rfl, fun qq hq => by (cases List.mem_singleton.mp hq); exact ⟨_, kw_Fixed_pick, rfl⟩⟩⟩, k_Fixed_pick⟩ 2 (by simp) rfl fun D doc pm an cdv ct us ks hl hk => match us, hl, ks, hk with | [_, _], _, [_], _ => ⟨_, _, _, _, _, _, rfl, rfl, rfl⟩
  have F_Peek_pick := fun_mk (st := s_Peek_pick) l_Peek_pick c_Peek_pick k_Peek_pick
  have kb_Peek_pick : KB K (PySem.W.fnOf "pick" "Peek.pick" (defArgs s_Peek_pick) (defBody s_Peek_pick) (defScope s_Peek_pick) .none (.ref kd_Peek_pick) dc_Peek_pick pm_Peek_pick an_Peek_pick cd_Peek_pick ct_Peek_pick) ["self", "standing", "shown"] 2 ["shown"] := ⟨fun s us ws _ l1 l2 => match us, l1, ws, l2 with | [_, _], _, [_], _ => .of_eq rfl, fun r1 r2 => r1.append r2⟩
  have d_Peek_pick := FunD.binds0 (ps := ["self", "standing", "shown"]) (kws := [("shown", V.non)]) ⟨⟨_, _, .none, .ref kd_Peek_pick, _, _, _, _, _, _, rfl, l_Peek_pick, c_Peek_pick, .inl ⟨rfl, rfl⟩, .inr ⟨kd_Peek_pick, rfl, fun qq hq => by (cases List.mem_singleton.mp hq); exact ⟨_, kw_Peek_pick, rfl⟩⟩⟩, k_Peek_pick⟩ 2 (by simp) rfl fun D doc pm an cdv ct us ks hl hk => match us, hl, ks, hk with | [_, _], _, [_], _ => ⟨_, _, _, _, _, _, rfl, rfl, rfl⟩
  have F_law_asked := fun_mk (st := s_law_asked) l_law_asked c_law_asked k_law_asked
  have b_law_asked := F_law_asked.binds (ps := ["_law_policy", "_law_scene_here"]) fun _ _ _ _ _ _ us hl => match us, hl with | [_, _], _ => rfl
  have F_ByRow_init := fun_mk (st := s_ByRow_init) l_ByRow_init c_ByRow_init k_ByRow_init
  have b_ByRow_init := F_ByRow_init.binds (ps := ["self", "row"]) fun _ _ _ _ _ _ us hl => match us, hl with | [_, _], _ => rfl
  have F_Fixed_init := fun_mk (st := s_Fixed_init) l_Fixed_init c_Fixed_init k_Fixed_init
  have b_Fixed_init := F_Fixed_init.binds (ps := ["self", "row"]) fun _ _ _ _ _ _ us hl => match us, hl with | [_, _], _ => rfl
  have F_law := fun_mk (st := s_law) l_law c_law k_law
  have b_law := F_law.binds (ps := ["_law_script"]) fun _ _ _ _ _ _ us hl => match us, hl with | [_], _ => rfl
  let T : Txt P K mg := ⟨C_ByRow, PySem.W.mg_of X G aC_ByRow, ⟨c1_ByRow, c2_ByRow, c3_ByRow, c4_ByRow⟩, nf_ByRow_numbers, nf_ByRow_picks, C_Fixed, PySem.W.mg_of X G aC_Fixed, ⟨c1_Fixed, c2_Fixed, c3_Fixed, c4_Fixed⟩, nf_Fixed_asked, nf_Fixed_listed, C_LeastNode, PySem.W.mg_of X G aC_LeastNode, ⟨c1_LeastNode, c2_LeastNode, c3_LeastNode, c4_LeastNode⟩, ⟨⟨m1_LeastNode, m4_LeastNode⟩, i0_LeastNode, tp_LeastNode⟩, C_MostLanes, PySem.W.mg_of X G aC_MostLanes, ⟨c1_MostLanes, c2_MostLanes, c3_MostLanes, c4_MostLanes⟩, ⟨⟨m1_MostLanes, m4_MostLanes⟩, i0_MostLanes, tp_MostLanes⟩, C_Peek, PySem.W.mg_of X G aC_Peek, ⟨c1_Peek, c2_Peek, c3_Peek, c4_Peek⟩, ⟨⟨m1_Peek, m4_Peek⟩, i0_Peek, tp_Peek⟩, t_END, PySem.W.mg_of X G n_END, f_distinct, _, F_distinct, k_distinct, PySem.W.mg_of X G a_distinct, b_distinct, f_occupied, _, F_occupied, k_occupied, PySem.W.mg_of X G a_occupied, b_occupied, f_law_cell, _, F_law_cell, k_law_cell, PySem.W.mg_of X G a_law_cell, b_law_cell, f_law_digits, _, F_law_digits, k_law_digits, PySem.W.mg_of X G a_law_digits, b_law_digits, f_law_seed, _, F_law_seed, k_law_seed, PySem.W.mg_of X G a_law_seed, b_law_seed, f_law_is_int, _, F_law_is_int, k_law_is_int, PySem.W.mg_of X G a_law_is_int, b_law_is_int, f_law_standing, _, F_law_standing, k_law_standing, PySem.W.mg_of X G a_law_standing, b_law_standing, f_law_spots, _, F_law_spots, k_law_spots, PySem.W.mg_of X G a_law_spots, b_law_spots, f_law_scene, _, F_law_scene, k_law_scene, PySem.W.mg_of X G a_law_scene, b_law_scene, f_law_clear, _, F_law_clear, k_law_clear, PySem.W.mg_of X G a_law_clear, b_law_clear, f_law_numbers, _, F_law_numbers, k_law_numbers, PySem.W.mg_of X G a_law_numbers, b_law_numbers, f_law_dues, _, F_law_dues, k_law_dues, PySem.W.mg_of X G a_law_dues, b_law_dues, f_LeastNode_pick, _, F_LeastNode_pick, ⟨a_LeastNode_pick, i_LeastNode_pick, k_LeastNode_pick⟩, kb_LeastNode_pick, d_LeastNode_pick, f_MostLanes_pick, _, F_MostLanes_pick, ⟨a_MostLanes_pick, i_MostLanes_pick, k_MostLanes_pick⟩, kb_MostLanes_pick, d_MostLanes_pick, f_ByRow_pick, _, F_ByRow_pick, ⟨a_ByRow_pick, i_ByRow_pick, k_ByRow_pick⟩, kb_ByRow_pick, d_ByRow_pick, f_Fixed_pick, _, F_Fixed_pick, ⟨a_Fixed_pick, i_Fixed_pick, k_Fixed_pick⟩, kb_Fixed_pick, d_Fixed_pick, f_Peek_pick, _, F_Peek_pick, ⟨a_Peek_pick, i_Peek_pick, k_Peek_pick⟩, kb_Peek_pick, d_Peek_pick, f_law_asked, _, F_law_asked, k_law_asked, PySem.W.mg_of X G a_law_asked, b_law_asked, f_ByRow_init, _, F_ByRow_init, ⟨m1_ByRow, a_ByRow_init, i_ByRow_init, m4_ByRow⟩, b_ByRow_init, f_Fixed_init, _, F_Fixed_init, ⟨m1_Fixed, a_Fixed_init, i_Fixed_init, m4_Fixed⟩, b_Fixed_init, fa, _, F_law, k_law, PySem.W.mg_of X G a_law, b_law, PySem.W.mg_none_of X G z_len, PySem.W.mg_none_of X G z_abs, PySem.W.mg_none_of X G z_int, PySem.W.mg_none_of X G z_list, PySem.W.mg_none_of X G z_range, PySem.W.mg_none_of X G z_min, PySem.W.mg_none_of X G z_max, PySem.W.mg_none_of X G z_sorted, PySem.W.mg_none_of X G z_set, PySem.W.mg_none_of X G z_tuple, PySem.W.mg_none_of X G z_isinstance, PySem.W.mg_none_of X G z_bool, nd_Pol⟩
  exact ⟨PySem.W.fnOf "law" "law" (defArgs s_law) (defBody s_law) (defScope s_law) .none kV_law dc_law pm_law an_law cd_law ct_law, fun s v => .of_eq rfl, fun base _ _ => law_ok (ok_law T) (plain T)⟩
end
end K14
open PyProof.Rows PySem.W PySem in set_option maxRecDepth 100000 in set_option maxHeartbeats 0 in
theorem PySem.Challenge.cw_foreworth_k14_plain_policies_holds : PySem.Challenge.rw_foreworth_k14_plain_policies.Holds := by
  w_on; o_law; k_head
  (case hw => w_witness2)
  k_fill
  refine Mv.law_walk (l := PySem.Challenge.rw_foreworth_k14_plain_policies) (k := 5) (x := "_law_script") rfl rfl ⟨rfl, by decide, by decide⟩ (fun w h Y => PySem.W.kIn_of Y) ?F
  case F => as_aux_lemma =>
    intro w mg fa h KX G hmg
    refine' K14.all_mk KX G hmg ?aC_ByRow ?c1_ByRow ?c2_ByRow ?c3_ByRow ?c4_ByRow ?m1_ByRow ?m4_ByRow ?nf_ByRow_numbers ?nf_ByRow_picks ?aC_Fixed ?c1_Fixed ?c2_Fixed ?c3_Fixed ?c4_Fixed ?m1_Fixed ?m4_Fixed ?nf_Fixed_asked ?nf_Fixed_listed ?aC_LeastNode ?c1_LeastNode ?c2_LeastNode ?c3_LeastNode ?c4_LeastNode ?m1_LeastNode ?m4_LeastNode ?i0_LeastNode ?tp_LeastNode ?aC_MostLanes ?c1_MostLanes ?c2_MostLanes ?c3_MostLanes ?c4_MostLanes ?m1_MostLanes ?m4_MostLanes ?i0_MostLanes ?tp_MostLanes ?aC_Peek ?c1_Peek ?c2_Peek ?c3_Peek ?c4_Peek ?m1_Peek ?m4_Peek ?i0_Peek ?tp_Peek ?n_END ?a_distinct ?l_distinct ?c_distinct ?k_distinct ?a_occupied ?l_occupied ?c_occupied ?k_occupied ?a_law_cell ?l_law_cell ?c_law_cell ?k_law_cell ?a_law_digits ?l_law_digits ?c_law_digits ?k_law_digits ?a_law_seed ?l_law_seed ?c_law_seed ?k_law_seed ?a_law_is_int ?l_law_is_int ?c_law_is_int ?k_law_is_int ?a_law_standing ?l_law_standing ?c_law_standing ?k_law_standing ?a_law_spots ?l_law_spots ?c_law_spots ?k_law_spots ?a_law_scene ?l_law_scene ?c_law_scene ?k_law_scene ?a_law_clear ?l_law_clear ?c_law_clear ?k_law_clear ?a_law_numbers ?l_law_numbers ?c_law_numbers ?k_law_numbers ?a_law_dues ?l_law_dues ?c_law_dues ?k_law_dues ?a_LeastNode_pick ?i_LeastNode_pick ?l_LeastNode_pick ?kw_LeastNode_pick ?c_LeastNode_pick ?k_LeastNode_pick ?a_MostLanes_pick ?i_MostLanes_pick ?l_MostLanes_pick ?kw_MostLanes_pick ?c_MostLanes_pick ?k_MostLanes_pick ?a_ByRow_pick ?i_ByRow_pick ?l_ByRow_pick ?kw_ByRow_pick ?c_ByRow_pick ?k_ByRow_pick ?a_Fixed_pick ?i_Fixed_pick ?l_Fixed_pick ?kw_Fixed_pick ?c_Fixed_pick ?k_Fixed_pick ?a_Peek_pick ?i_Peek_pick ?l_Peek_pick ?kw_Peek_pick ?c_Peek_pick ?k_Peek_pick ?a_law_asked ?l_law_asked ?c_law_asked ?k_law_asked ?a_ByRow_init ?i_ByRow_init ?l_ByRow_init ?c_ByRow_init ?k_ByRow_init ?a_Fixed_init ?i_Fixed_init ?l_Fixed_init ?c_Fixed_init ?k_Fixed_init ?a_law ?l_law ?c_law ?k_law ?z_len ?z_abs ?z_int ?z_list ?z_range ?z_min ?z_max ?z_sorted ?z_set ?z_tuple ?z_isinstance ?z_bool ?nd_Pol
    (case aC_ByRow => k_is)
    (case c1_ByRow => k_is)
    (case c2_ByRow => k_is)
    (case c3_ByRow => k_is)
    (case c4_ByRow => k_is)
    (case m1_ByRow => k_is)
    (case m4_ByRow => k_is)
    (case nf_ByRow_numbers => k_is)
    (case nf_ByRow_picks => k_is)
    (case aC_Fixed => k_is)
    (case c1_Fixed => k_is)
    (case c2_Fixed => k_is)
    (case c3_Fixed => k_is)
    (case c4_Fixed => k_is)
    (case m1_Fixed => k_is)
    (case m4_Fixed => k_is)
    (case nf_Fixed_asked => k_is)
    (case nf_Fixed_listed => k_is)
    (case aC_LeastNode => k_is)
    (case c1_LeastNode => k_is)
    (case c2_LeastNode => k_is)
    (case c3_LeastNode => k_is)
    (case c4_LeastNode => k_is)
    (case m1_LeastNode => k_is)
    (case m4_LeastNode => k_is)
    (case i0_LeastNode => k_is)
    (case tp_LeastNode => (first | k_is | kernel_rfl | rfl))
    (case aC_MostLanes => k_is)
    (case c1_MostLanes => k_is)
    (case c2_MostLanes => k_is)
    (case c3_MostLanes => k_is)
    (case c4_MostLanes => k_is)
    (case m1_MostLanes => k_is)
    (case m4_MostLanes => k_is)
    (case i0_MostLanes => k_is)
    (case tp_MostLanes => (first | k_is | kernel_rfl | rfl))
    (case aC_Peek => k_is)
    (case c1_Peek => k_is)
    (case c2_Peek => k_is)
    (case c3_Peek => k_is)
    (case c4_Peek => k_is)
    (case m1_Peek => k_is)
    (case m4_Peek => k_is)
    (case i0_Peek => k_is)
    (case tp_Peek => (first | k_is | kernel_rfl | rfl))
    (case n_END => k_is)
    (case a_distinct => k_is)
    (case l_distinct => k_is)
    (case c_distinct => k_is)
    (case k_distinct => k_is)
    (case a_occupied => k_is)
    (case l_occupied => k_is)
    (case c_occupied => k_is)
    (case k_occupied => k_is)
    (case a_law_cell => k_is)
    (case l_law_cell => k_is)
    (case c_law_cell => k_is)
    (case k_law_cell => k_is)
    (case a_law_digits => k_is)
    (case l_law_digits => k_is)
    (case c_law_digits => k_is)
    (case k_law_digits => k_is)
    (case a_law_seed => k_is)
    (case l_law_seed => k_is)
    (case c_law_seed => k_is)
    (case k_law_seed => k_is)
    (case a_law_is_int => k_is)
    (case l_law_is_int => k_is)
    (case c_law_is_int => k_is)
    (case k_law_is_int => k_is)
    (case a_law_standing => k_is)
    (case l_law_standing => k_is)
    (case c_law_standing => k_is)
    (case k_law_standing => k_is)
    (case a_law_spots => k_is)
    (case l_law_spots => k_is)
    (case c_law_spots => k_is)
    (case k_law_spots => k_is)
    (case a_law_scene => k_is)
    (case l_law_scene => k_is)
    (case c_law_scene => k_is)
    (case k_law_scene => k_is)
    (case a_law_clear => k_is)
    (case l_law_clear => k_is)
    (case c_law_clear => k_is)
    (case k_law_clear => k_is)
    (case a_law_numbers => k_is)
    (case l_law_numbers => k_is)
    (case c_law_numbers => k_is)
    (case k_law_numbers => k_is)
    (case a_law_dues => k_is)
    (case l_law_dues => k_is)
    (case c_law_dues => k_is)
    (case k_law_dues => k_is)
    (case a_LeastNode_pick => k_is)
    (case i_LeastNode_pick => k_is)
    (case l_LeastNode_pick => k_is)
    (case kw_LeastNode_pick => k_is)
    (case c_LeastNode_pick => k_is)
    (case k_LeastNode_pick => k_is)
    (case a_MostLanes_pick => k_is)
    (case i_MostLanes_pick => k_is)
    (case l_MostLanes_pick => k_is)
    (case kw_MostLanes_pick => k_is)
    (case c_MostLanes_pick => k_is)
    (case k_MostLanes_pick => k_is)
    (case a_ByRow_pick => k_is)
    (case i_ByRow_pick => k_is)
    (case l_ByRow_pick => k_is)
    (case kw_ByRow_pick => k_is)
    (case c_ByRow_pick => k_is)
    (case k_ByRow_pick => k_is)
    (case a_Fixed_pick => k_is)
    (case i_Fixed_pick => k_is)
    (case l_Fixed_pick => k_is)
    (case kw_Fixed_pick => k_is)
    (case c_Fixed_pick => k_is)
    (case k_Fixed_pick => k_is)
    (case a_Peek_pick => k_is)
    (case i_Peek_pick => k_is)
    (case l_Peek_pick => k_is)
    (case kw_Peek_pick => k_is)
    (case c_Peek_pick => k_is)
    (case k_Peek_pick => k_is)
    (case a_law_asked => k_is)
    (case l_law_asked => k_is)
    (case c_law_asked => k_is)
    (case k_law_asked => k_is)
    (case a_ByRow_init => k_is)
    (case i_ByRow_init => k_is)
    (case l_ByRow_init => k_is)
    (case c_ByRow_init => k_is)
    (case k_ByRow_init => k_is)
    (case a_Fixed_init => k_is)
    (case i_Fixed_init => k_is)
    (case l_Fixed_init => k_is)
    (case c_Fixed_init => k_is)
    (case k_Fixed_init => k_is)
    (case a_law => k_is)
    (case l_law => k_is)
    (case c_law => k_is)
    (case k_law => k_is)
    (case z_len => k_is)
    (case z_abs => k_is)
    (case z_int => k_is)
    (case z_list => k_is)
    (case z_range => k_is)
    (case z_min => k_is)
    (case z_max => k_is)
    (case z_sorted => k_is)
    (case z_set => k_is)
    (case z_tuple => k_is)
    (case z_isinstance => k_is)
    (case z_bool => k_is)
    (case nd_Pol => decide)
